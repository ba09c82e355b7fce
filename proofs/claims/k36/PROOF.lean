import PyProof.Rows.All
import Wide.All
import OpenK.AllK
import Wide.FinOn
import HandS.ForMost
import HandS.Wide
import HandS.Flow
import HandS.Lambda
import HandS.EndTab
import HandS.IsInst
import HandS.NoneIn
import HandS.Deep
import HandS.Sort
import HandS.TupLen
import HandS.DictComp
import HandS.DeepEq
import PyProof.DictMoreH
import KE.SortCalls
import HandS.Dict
import HandS.Iter
import KE.KDictSum
import KE.KDictCopyH
import KE.KDictExact
import KE.KRevSl
import PyProof.Transfer
import HandS.Style
import KE.DataMinMax
import KE.DatumOrd
import HandS.MakeKwOnly
import PyProof.ReprLen
import HandS.HeadHook4
import HandS.HeadWalk
import KE.SortData
import KE.SortKeyHeap
import HandS.ForExc
import HandS.ExcInit
import HandS.ExcField
import HandS.ExcIs
import HandS.Head2
import KE.KExcIs
import HandS.DictTup
import PySem.Challenge.RW_footpath_k36_whole_no_string_is_shorter
import KE.KeyNested
import KE.DataCmp
import KE.KDictDisplayH
import HandS.Records
import HandS.Nested
import PyProof.CallFns
set_option Elab.async false
set_option linter.all false
set_option maxRecDepth 100000
set_option maxHeartbeats 1000000
namespace Mi
open PySem PySem.Spec PyProof.Rows L2
structure Cs where
  c : Addr
  p : Addr
  q : Str
def csD (K : PySem.W.Frag) (tf : List (He.Defn × Str)) : List Cs := tf.map fun p => ⟨(He.cT K p.1).1, (He.cT K p.1).2, p.2⟩
open HandSHeadRun in
def newsB : List Nat → Nat → List Nat → Nat × List Nat
  | [], m, acc => (m, acc)
  | a :: r, m, acc => match Nat.beq (Nat.land (Nat.shiftRight m a) 1) 1 with
    | true => newsB r m acc
    | false => frNat (Nat.lor m (Nat.shiftLeft 1 a)) fun m => newsB r m (a :: acc)
def refsB (g : Addr → Option Obj) : List Nat → Nat → List Nat → Nat × List Nat
  | [], m, acc => (m, acc)
  | a :: r, m, acc => match g a with
    | some o => (match newsB (He.refsD o) m acc with | (m, acc) => refsB g r m acc)
    | none => refsB g r m acc
def levB (g : Addr → Option Obj) : Nat → Nat → List Nat → List Nat → List Nat
  | 0, _, _, all => all
  | n + 1, m, front, all => match refsB g front m [] with | (m, f) => levB g n m f (all ++ f)
def adB (g : Addr → Option Obj) (n : Nat) : List Addr := cStatics :: levB g n (Nat.shiftLeft 1 mainGlobals) [mainGlobals] [mainGlobals]
def frL {α β : Type} : List α → (List α → β) → β
  | [], k => k []
  | a :: r, k => frL r fun r => k (a :: r)
theorem frL_eq {α β : Type} : ∀ (l : List α) (k : List α → β), frL l k = k l
  | [], _ => rfl
  | a :: r, k => frL_eq r fun r => k (a :: r)
def obsB (n : Nat) (facts : List He.Fa) (defs : List He.DefD) (tabs : List He.Tab) (lams : List He.Defn) (more : PySem.W.Frag → Bool) (g : Addr → Option Obj) : He.AlX :=
  frL (He.frT g (adB g n)) fun K => (He.obsT facts defs tabs K, more K && He.tabsB g lams K)
theorem saysB {as : List Addr} {facts : List He.Fa} {defs : List He.DefD} {tabs : List He.Tab} {lams : List He.Defn} {more : PySem.W.Frag → Bool} {w : World} {hp : Heap} (q : (He.obsT facts defs tabs (He.frT hp.get? as), more (He.frT hp.get? as) && He.tabsB hp.get? lams (He.frT hp.get? as)) = He.valX defs tabs w) : He.SaysX facts defs tabs lams more w hp (He.frT hp.get? as) := by
  obtain ⟨q1, q2⟩ := Prod.mk.injEq .. ▸ q
  rw [Bool.and_eq_true] at q2
  have each : ∀ p ∈ lams, PySem.W.codeHdIn (He.frT hp.get? as) (He.cT (He.frT hp.get? as) p).1 (He.cT (He.frT hp.get? as) p).2 = true ∧ ∃ o, hp.get? (He.cT (He.frT hp.get? as) p).2 = some o ∧ He.emptyTab o = true := by
    intro p hp'
    have t := List.all_eq_true.mp q2.2 p hp'
    rw [Bool.and_eq_true] at t
    refine ⟨t.1, ?_⟩
    have t2 := t.2
    revert t2
    cases c : hp.get? (He.cT (He.frT hp.get? as) p).2 with
    | none => intro t2; cases t2
    | some o => exact fun t2 => ⟨o, rfl, t2⟩
  constructor
  · exact q1
  · exact q2.1
  · exact fun p m => (each p m).1
  · intro p m
    obtain ⟨o, e1, e2⟩ := (each p m).2
    exact He.frT_none e1 e2
  · intro p m
    obtain ⟨o, e1, e2⟩ := (each p m).2
    rw [e1, He.emptyTab_eq e2]
def hookB (n : Nat) (facts : List He.Fa) (defs : List He.DefD) (tabs : List He.Tab) (lams : List He.Defn) (more : PySem.W.Frag → Bool) : PySem.W.Hook :=
  ⟨He.AlX, fun s => obsB n facts defs tabs lams more s.heap.get?, fun w => He.valX defs tabs w, fun w hp => ∃ K : PySem.W.Frag, K.In hp ∧ He.SaysX facts defs tabs lams more w hp K, fun _ _ q => ⟨_, He.frT_in, saysB ((frL_eq _ _).symm.trans q)⟩, (He.hookX n facts defs tabs lams more).keeps⟩
theorem obsB_eq {n : Nat} {facts : List He.Fa} {defs : List He.DefD} {tabs : List He.Tab} {lams : List He.Defn} {more : PySem.W.Frag → Bool} {g : Addr → Option Obj} {s : Shared} (q : ∀ a, g a = s.heap.get? a) : obsB n facts defs tabs lams more g = (hookB n facts defs tabs lams more).obs s := by
  obtain rfl : g = s.heap.get? := funext q
  rfl
open HandSHeadRun in
def Look {α : Type} (r : PySem.W.OpenRow) (M : Nat) (w : World) (f : PySem.W.SharedT → α) (v : α) : Prop := ∀ os : OsState, (endF (stepQ (denQ tabQ) r.prog w) M r.prog w os).map f = some v
open PySem.W PyProof.Rows HandSHeadRun in
theorem run_of {r : PySem.W.OpenRow} {q : Program} {H : PySem.W.Hook} {ob : PySem.W.SharedT → H.α} {M : Nat} {loose : List Str} {w : World} (h1 : Look r M w (fun s => HandSHeadRun.looksF r.prog (boot_heap w.params) s.abs) true)
    (h2 : Look r M w (fun s => HandSHeadRun.seenQ q loose (importedModules r.prog.main.body) (fun s => PySem.W.xlAt q [] s && PySem.W.recOk r.toRowW.records s) s.abs) (PySem.W.openGood q loose)) (h3 : Look r M w ob (H.val w)) : HandSHeadRun.RunEq r q H ob M loose w := by
  intro os
  obtain ⟨s, hs, e1⟩ := Option.map_eq_some_iff.mp (h1 os)
  have e2 := h2 os
  have e3 := h3 os
  rw [hs] at e2 e3 ⊢
  have e2 := Option.some.inj e2
  have e3 := Option.some.inj e3
  exact congrArg some (Prod.ext e1 (Prod.ext e2 e3))
end Mi
namespace Mi
open PySem PySem.Spec PyProof.Rows L2
/-- data. kt: a written tuple; lst: a list that is not changed any more; scr: the script; ref: an object of the shared heap; own: the object that a slot of the frame owns -/
inductive D where
  | non | bl (b : Bool) | int (i : Int) | str (x : Str)
  | tup (xs : List D) | kt (xs : List D) | lst (xs : List D) | scr (xs : List D)
  | ref (n : Nat) | own (i : Nat)
  | dk (kvs : List (Key × D)) | dt (kvs : List (List Key × D))
  | ins (nm : Str) (fs : List (Str × D))
end Mi
set_option maxRecDepth 100000
namespace W
open PySem L2 Mi
noncomputable section
def top (i : Nat) : Stmt := PySem.Challenge.pw_footpath_k36_whole_no_string_is_shorter.main.body.getD i (.Pass ⟨0, 0, 0, 0⟩)
abbrev s_law_state : Stmt := top 13
abbrev s_law_draw : Stmt := top 14
abbrev s_law_side : Stmt := top 16
abbrev s_law_pick : Stmt := top 15
abbrev s_law_point : Stmt := top 18
abbrev s_law_next : Stmt := top 17
abbrev s_law_corridor : Stmt := top 19
abbrev s_Funnel___init__ : Stmt := inClass (top 5) 0
abbrev s_cross : Stmt := top 1
abbrev s_Funnel_misses : Stmt := inClass (top 5) 1
abbrev s_Funnel_narrow : Stmt := inClass (top 5) 2
abbrev s_distance : Stmt := top 2
abbrev s_nearer : Stmt := top 4
abbrev s_on_gate : Stmt := top 3
abbrev s_next_bend : Stmt := top 6
abbrev s_is_straight : Stmt := top 7
abbrev s_without_straight : Stmt := top 8
abbrev s_taut : Stmt := top 9
abbrev s_law_on : Stmt := top 22
abbrev s_law_strings : Stmt := top 23
abbrev s_law_root : Stmt := top 20
abbrev s_law_length : Stmt := top 21
abbrev s_root : Stmt := top 10
abbrev s_length_bounds : Stmt := top 11
abbrev s_law : Stmt := top 24
end
end W
set_option Elab.async false
set_option linter.all false
set_option maxRecDepth 100000
set_option maxHeartbeats 0
namespace W
open PySem L2 Mi PySem.W
def D_law_state : He.DefD := ⟨("_law_state", none), "_law_state", "_law_state", defArgs s_law_state, defBody s_law_state, defScope s_law_state, [], []⟩
def D_law_draw : He.DefD := ⟨("_law_draw", none), "_law_draw", "_law_draw", defArgs s_law_draw, defBody s_law_draw, defScope s_law_draw, [], []⟩
def D_law_side : He.DefD := ⟨("_law_side", none), "_law_side", "_law_side", defArgs s_law_side, defBody s_law_side, defScope s_law_side, [], []⟩
def D_law_pick : He.DefD := ⟨("_law_pick", none), "_law_pick", "_law_pick", defArgs s_law_pick, defBody s_law_pick, defScope s_law_pick, [], []⟩
def D_law_point : He.DefD := ⟨("_law_point", none), "_law_point", "_law_point", defArgs s_law_point, defBody s_law_point, defScope s_law_point, [], []⟩
def D_law_next : He.DefD := ⟨("_law_next", none), "_law_next", "_law_next", defArgs s_law_next, defBody s_law_next, defScope s_law_next, [], []⟩
def D_law_corridor : He.DefD := ⟨("_law_corridor", none), "_law_corridor", "_law_corridor", defArgs s_law_corridor, defBody s_law_corridor, defScope s_law_corridor, [], []⟩
def D_Funnel___init__ : He.DefD := ⟨("Funnel", some "__init__"), "__init__", "Funnel.__init__", defArgs s_Funnel___init__, defBody s_Funnel___init__, defScope s_Funnel___init__, [], []⟩
def D_cross : He.DefD := ⟨("cross", none), "cross", "cross", defArgs s_cross, defBody s_cross, defScope s_cross, [], []⟩
def D_Funnel_misses : He.DefD := ⟨("Funnel", some "misses"), "misses", "Funnel.misses", defArgs s_Funnel_misses, defBody s_Funnel_misses, defScope s_Funnel_misses, [], []⟩
def D_Funnel_narrow : He.DefD := ⟨("Funnel", some "narrow"), "narrow", "Funnel.narrow", defArgs s_Funnel_narrow, defBody s_Funnel_narrow, defScope s_Funnel_narrow, [], []⟩
def D_distance : He.DefD := ⟨("distance", none), "distance", "distance", defArgs s_distance, defBody s_distance, defScope s_distance, [], []⟩
def D_nearer : He.DefD := ⟨("nearer", none), "nearer", "nearer", defArgs s_nearer, defBody s_nearer, defScope s_nearer, [], []⟩
def D_on_gate : He.DefD := ⟨("on_gate", none), "on_gate", "on_gate", defArgs s_on_gate, defBody s_on_gate, defScope s_on_gate, [], []⟩
def D_next_bend : He.DefD := ⟨("next_bend", none), "next_bend", "next_bend", defArgs s_next_bend, defBody s_next_bend, defScope s_next_bend, [], []⟩
def D_is_straight : He.DefD := ⟨("is_straight", none), "is_straight", "is_straight", defArgs s_is_straight, defBody s_is_straight, defScope s_is_straight, [], []⟩
def D_without_straight : He.DefD := ⟨("without_straight", none), "without_straight", "without_straight", defArgs s_without_straight, defBody s_without_straight, defScope s_without_straight, [], []⟩
def D_taut : He.DefD := ⟨("taut", none), "taut", "taut", defArgs s_taut, defBody s_taut, defScope s_taut, [], []⟩
def D_law_on : He.DefD := ⟨("_law_on", none), "_law_on", "_law_on", defArgs s_law_on, defBody s_law_on, defScope s_law_on, [], []⟩
def D_law_strings : He.DefD := ⟨("_law_strings", none), "_law_strings", "_law_strings", defArgs s_law_strings, defBody s_law_strings, defScope s_law_strings, [], []⟩
def D_law_root : He.DefD := ⟨("_law_root", none), "_law_root", "_law_root", defArgs s_law_root, defBody s_law_root, defScope s_law_root, [], []⟩
def D_law_length : He.DefD := ⟨("_law_length", none), "_law_length", "_law_length", defArgs s_law_length, defBody s_law_length, defScope s_law_length, [], []⟩
def D_root : He.DefD := ⟨("root", none), "root", "root", defArgs s_root, defBody s_root, defScope s_root, [], []⟩
def D_length_bounds : He.DefD := ⟨("length_bounds", none), "length_bounds", "length_bounds", defArgs s_length_bounds, defBody s_length_bounds, defScope s_length_bounds, [], []⟩
def D_law : He.DefD := ⟨("law", none), "law", "law", defArgs s_law, defBody s_law, defScope s_law, [], []⟩
def fn_ : List He.DefD := [D_law_state, D_law_draw, D_law_side, D_law_pick, D_law_point, D_law_next, D_law_corridor, D_Funnel___init__, D_cross, D_Funnel_misses, D_Funnel_narrow, D_distance, D_nearer, D_on_gate, D_next_bend, D_is_straight, D_without_straight, D_taut, D_law_on, D_law_strings, D_law_root, D_law_length, D_root, D_length_bounds, D_law]
def fa_ : List He.Fa := [.glo "_law_state", .glo "_law_draw", .glo "_law_side", .glo "_law_pick", .glo "_law_point", .glo "_law_next", .glo "_law_corridor", .glo "cross", .glo "distance", .glo "nearer", .glo "on_gate", .glo "next_bend", .glo "is_straight", .glo "without_straight", .glo "taut", .glo "_law_on", .glo "_law_strings", .glo "_law_root", .glo "_law_length", .glo "root", .glo "length_bounds", .glo "law", .free "abs", .free "int", .free "isinstance", .free "len", .free "max", .free "range", .free "tuple", .glo "Funnel", .cls "Funnel", .noat "Funnel" "apex", .noat "Funnel" "left", .noat "Funnel" "right", .meth "Funnel" "misses", .meth "Funnel" "narrow", .mkr "Funnel"]
def tf_ : List (He.Defn × Str) := []
def ex_ (K : PySem.W.Frag) : Bool := (csD K tf_).all fun z => (csD K tf_).all fun y => !decide (z.p = y.p) || decide (z.q = y.q)
abbrev R_ : PySem.W.OpenRow := PySem.W.OpenLaw.row PySem.Challenge.rw_footpath_k36_whole_no_string_is_shorter
abbrev hk_ : PySem.W.Hook := Mi.hookB 6 fa_ fn_ [] (tf_.map Prod.fst) ex_
def ob_ (s : PySem.W.SharedT) : He.AlX := Mi.obsB 6 fa_ fn_ [] (tf_.map Prod.fst) ex_ (HandSHeadRun.getT s)
theorem ob_eq (s : PySem.W.SharedT) : ob_ s = hk_.obs s.abs := Mi.obsB_eq (HandSHeadRun.getT_eq s)
def loose_ : List Str := [("cross" : Str), ("distance" : Str), ("on_gate" : Str), ("nearer" : Str), ("Funnel" : Str), ("next_bend" : Str), ("is_straight" : Str), ("without_straight" : Str), ("taut" : Str), ("root" : Str), ("length_bounds" : Str), ("_law_state" : Str), ("_law_draw" : Str), ("_law_pick" : Str), ("_law_side" : Str), ("_law_next" : Str), ("_law_point" : Str), ("_law_corridor" : Str), ("_law_root" : Str), ("_law_length" : Str), ("_law_on" : Str), ("_law_strings" : Str)]
open PyProof.Rows HandSHeadRun in
set_option maxHeartbeats 0 in
theorem runA_ (w : World) : Mi.Look R_ 9000 w (fun s => looksF R_.prog (boot_heap w.params) s.abs) true := by
  intro os
  kernel_rfl
open PyProof.Rows HandSHeadRun in
set_option maxHeartbeats 0 in
theorem runB_ (w : World) : Mi.Look R_ 9000 w (fun s => seenQ (PySem.W.view R_.prog [24]) loose_ (importedModules R_.prog.main.body) (fun s => xlAt (PySem.W.view R_.prog [24]) [] s && recOk R_.toRowW.records s) s.abs) (openGood (PySem.W.view R_.prog [24]) loose_) := by
  intro os
  kernel_rfl
open PyProof.Rows HandSHeadRun in
set_option maxHeartbeats 0 in
theorem runC_ (w : World) : Mi.Look R_ 9000 w (ob_) (hk_.val w) := by
  intro os
  kernel_rfl
set_option maxHeartbeats 0 in
theorem run_ (w : World) : HandSHeadRun.RunEq R_ (PySem.W.view R_.prog [24]) hk_ ob_ 9000 loose_ w := Mi.run_of (runA_ w) (runB_ w) (runC_ w)
end W
set_option Elab.async false
set_option linter.all false
set_option maxRecDepth 100000
namespace Mi
open PySem PySem.Spec PyProof.Rows L2
/-- what the walk knows beside the fragment: the tables of code objects, the classes by name -/
structure Tbs where
  t : List (Addr × Str)
  c : List (Str × Addr)
structure Kx where
  k : PySem.W.Frag
  tb : Tbs
instance : Coe Kx PySem.W.Frag := ⟨Kx.k⟩
@[reducible] def kx (X : Cx) (Tb : Tbs) : Kx := ⟨X.K, Tb⟩
mutual
inductive Rp (K : Kx) (F : Hp) (rho : List Addr) : D → V → Prop
  | non : Rp K F rho .non .non
  | bl (b : Bool) : Rp K F rho (.bl b) (.bl b)
  | int (i : Int) : Rp K F rho (.int i) (.int i)
  | str (x : Str) : Rp K F rho (.str x) (.str x)
  | tup {a : Addr} {xs : List V} {ds : List D} : F a = some (.tup xs) → Rps K F rho ds xs → Rp K F rho (.tup ds) (.ref a)
  | kt {a : Addr} {xs : List V} {ds : List D} : SqT K F a xs → Rps K F rho ds xs → Rp K F rho (.kt ds) (.ref a)
  | lst {a : Addr} {xs : List V} {ds : List D} : F a = some (.lst xs) → Rps K F rho ds xs → Rp K F rho (.lst ds) (.ref a)
  | scr {a : Addr} {xs : List V} {ds : List D} : SqL K F a xs → Rps K F rho ds xs → Rp K F rho (.scr ds) (.ref a)
  | ref {n : Nat} {a : Addr} : rho[n]? = some a → Rp K F rho (.ref n) (.ref a)
  | dk {a : Addr} {es : List (Key × V)} {kvs : List (Key × D)} {o : Obj} : F a = some (.frz o (.dK es)) → es.map Prod.fst = kvs.map Prod.fst → Rps K F rho (kvs.map Prod.snd) (es.map Prod.snd) → Rp K F rho (.dk kvs) (.ref a)
  | dt {a : Addr} {es : List (List Key × V)} {kvs : List (List Key × D)} {o : Obj} : F a = some (.frz o (.dT es)) → es.map Prod.fst = kvs.map Prod.fst → Rps K F rho (kvs.map Prod.snd) (es.map Prod.snd) → Rp K F rho (.dt kvs) (.ref a)
  | ins {nm : Str} {a C dx : Addr} {es : List (Str × V)} {fs : List (Str × D)} : (nm, C) ∈ K.tb.c → F a = some (.ins C dx es) → es.map Prod.fst = fs.map Prod.fst → Rps K F rho (fs.map Prod.snd) (es.map Prod.snd) → Rp K F rho (.ins nm fs) (.ref a)
inductive Rps (K : Kx) (F : Hp) (rho : List Addr) : List D → List V → Prop
  | nil : Rps K F rho [] []
  | cons {d : D} {v : V} {ds : List D} {vs : List V} : Rp K F rho d v → Rps K F rho ds vs → Rps K F rho (d :: ds) (v :: vs)
end
theorem Same.sqt {K : Kx} {H H' : Hp} {a : Addr} {xs : List V} (e : Same H H') (h : SqT K H a xs) : SqT K H' a xs := by
  rcases h with (h | ⟨o, h⟩) | h
  · exact .inl (.inl (e _ _ h))
  · exact .inl (.inr ⟨o, e _ _ h⟩)
  · exact .inr h
section
variable {K : Kx} {F F' : Hp} {rho rho' : List Addr}
theorem pre_get {a : Addr} {n : Nat} (p : rho <+: rho') (h : rho[n]? = some a) : rho'[n]? = some a := by
  obtain ⟨t, rfl⟩ := p
  rw [List.getElem?_append_left (List.getElem?_eq_some_iff.mp h).1]
  exact h
mutual
theorem Rp.mono (e : Same F F') (p : rho <+: rho') : ∀ {d : D} {v : V}, Rp K F rho d v → Rp K F' rho' d v
  | _, _, .non => .non
  | _, _, .bl b => .bl b
  | _, _, .int i => .int i
  | _, _, .str x => .str x
  | _, _, .tup h r => .tup (e _ _ h) (Rps.mono e p r)
  | _, _, .kt h r => .kt (Same.sqt e h) (Rps.mono e p r)
  | _, _, .lst h r => .lst (e _ _ h) (Rps.mono e p r)
  | _, _, .scr h r => .scr (e.seq h) (Rps.mono e p r)
  | _, _, .ref h => .ref (pre_get p h)
  | _, _, .dk h k r => .dk (e _ _ h) k (Rps.mono e p r)
  | _, _, .dt h k r => .dt (e _ _ h) k (Rps.mono e p r)
  | _, _, .ins m h k r => .ins m (e _ _ h) k (Rps.mono e p r)
theorem Rps.mono (e : Same F F') (p : rho <+: rho') : ∀ {ds : List D} {vs : List V}, Rps K F rho ds vs → Rps K F' rho' ds vs
  | _, _, .nil => .nil
  | _, _, .cons h r => .cons (Rp.mono e p h) (Rps.mono e p r)
end
theorem Rps.length : ∀ {ds : List D} {vs : List V}, Rps K F rho ds vs → ds.length = vs.length
  | _, _, .nil => rfl
  | _, _, .cons _ r => by rw [List.length_cons, List.length_cons, Rps.length r]
theorem Rps.get : ∀ {ds : List D} {vs : List V} {i : Nat} {d : D}, Rps K F rho ds vs → ds[i]? = some d → ∃ v, vs[i]? = some v ∧ Rp K F rho d v
  | _, _, _, _, .nil, h => by simp at h
  | _, _, 0, d, .cons r _, h => by
    simp at h
    subst h
    exact ⟨_, rfl, r⟩
  | _, _, i + 1, d, .cons _ r, h => by
    obtain ⟨v, h1, h2⟩ := Rps.get (i := i) (d := d) r (by simpa using h)
    exact ⟨v, by simpa using h1, h2⟩
theorem Rps.append : ∀ {ds es : List D} {vs us : List V}, Rps K F rho ds vs → Rps K F rho es us → Rps K F rho (ds ++ es) (vs ++ us)
  | _, _, _, _, .nil, s => s
  | _, _, _, _, .cons h r, s => .cons h (Rps.append r s)
theorem Rps.one {d : D} {v : V} (h : Rp K F rho d v) : Rps K F rho [d] [v] := .cons h .nil
theorem Rps.set {d : D} {v : V} (h : Rp K F rho d v) : ∀ {ds : List D} {vs : List V} (i : Nat), Rps K F rho ds vs → Rps K F rho (ds.set i d) (vs.set i v)
  | _, _, _, .nil => .nil
  | _, _, 0, .cons _ r => .cons h r
  | _, _, i + 1, .cons q r => .cons q (Rps.set h i r)
theorem Rps.eraseIdx : ∀ {ds : List D} {vs : List V} (i : Nat), Rps K F rho ds vs → Rps K F rho (ds.eraseIdx i) (vs.eraseIdx i)
  | _, _, _, .nil => .nil
  | _, _, 0, .cons _ r => r
  | _, _, i + 1, .cons q r => .cons q (Rps.eraseIdx i r)
theorem Rps.take : ∀ {ds : List D} {vs : List V} (i : Nat), Rps K F rho ds vs → Rps K F rho (ds.take i) (vs.take i)
  | _, _, 0, _ => .nil
  | _, _, _ + 1, .nil => .nil
  | _, _, i + 1, .cons q r => .cons q (Rps.take i r)
theorem Rps.drop : ∀ {ds : List D} {vs : List V} (i : Nat), Rps K F rho ds vs → Rps K F rho (ds.drop i) (vs.drop i)
  | _, _, 0, r => r
  | _, _, _ + 1, .nil => .nil
  | _, _, i + 1, .cons _ r => Rps.drop i r
theorem Rps.reverse : ∀ {ds : List D} {vs : List V}, Rps K F rho ds vs → Rps K F rho ds.reverse vs.reverse
  | _, _, .nil => .nil
  | _, _, .cons h r => by
    rw [List.reverse_cons, List.reverse_cons]
    exact (Rps.reverse r).append (.one h)
theorem Rps.ints : ∀ (ns : List Int), Rps K F rho (ns.map D.int) (ns.map V.int)
  | [] => .nil
  | n :: ns => .cons (.int n) (Rps.ints ns)
end
mutual
def nkD : D → Option NestedKey
  | .int i => some (.num i)
  | .tup ds => match nkDs ds with
    | some ks => some (.tup ks)
    | none => none
  | _ => none
def nkDs : List D → Option (List NestedKey)
  | [] => some []
  | d :: ds => match nkD d, nkDs ds with
    | some k, some ks => some (k :: ks)
    | _, _ => none
end
mutual
def hashI : NestedKey → Int
  | .none => 0
  | .num i => hashInt i
  | .text _ => 0
  | .tup ks => reduceHash (Builtin.Tuple.tupleHashOf (hashIs ks))
def hashIs : List NestedKey → List Int
  | [] => []
  | k :: ks => hashI k :: hashIs ks
end
/-- what is true of the one object of a dict whose keys are the nested tuples at qs, each with True -/
def NkO (a : Addr) (qs : List (NestedKey × Addr)) (h : Heap) : Prop := qs.length ≤ sizeLine ∧ (a == sysModules) = false ∧ ∃ o es ep, h.get? a = some o ∧ o.ExactDict ∧ o.data = .dict es ep ∧
  es.toList = qs.map (fun q => (⟨hashI q.1, .ref q.2, .bool true⟩ : DictEntry)) ∧ (qs.map Prod.fst).Nodup
/-- an object that may be changed, by its content -/
def Ob (K : Kx) (F : Hp) (rho : List Addr) (H : Hp) (a : Addr) : D → Prop
  | .lst ds => ∃ xs, H a = some (.lst xs) ∧ Rps K F rho ds xs
  | .dk kvs => ∃ es : List (Key × V), H a = some (.dK es) ∧ es.map Prod.fst = kvs.map Prod.fst ∧ Rps K F rho (kvs.map Prod.snd) (es.map Prod.snd)
  | .dt kvs => ∃ es : List (List Key × V), H a = some (.dT es) ∧ es.map Prod.fst = kvs.map Prod.fst ∧ Rps K F rho (kvs.map Prod.snd) (es.map Prod.snd)
  | .ins nm fs => ∃ (C dx : Addr) (es : List (Str × V)), (nm, C) ∈ K.tb.c ∧ H a = some (.ins C dx es) ∧ es.map Prod.fst = fs.map Prod.fst ∧ Rps K F rho (fs.map Prod.snd) (es.map Prod.snd)
  | .kt ks => ∃ qs : List (NestedKey × Addr), H a = some (.ext (NkO a qs)) ∧ Rps K F rho ks (qs.map fun q => V.ref q.2) ∧ ks.map nkD = qs.map (fun q => some q.1) ∧ ∀ q ∈ qs, q.1.depth ≤ 8
  | _ => False
/-- a slot of the frame -/
inductive Sl where
  | no | val (d : D) | own (d : D)
/-- the state: the frame's slots, the shared heap -/
structure Z where
  s : List Sl
  h : List D
/-- the tables: each code object that one tells is known for ever -/
structure TbOk (K : Kx) (F H : Hp) : Prop where
  tb : ∀ p ∈ K.tb.t, ∃ ps : Array Value, H p.1 = some (.tbl ps) ∧ TriplesOk ps.toList ∧ ∀ (pos : Pos) (cv : Value), codeAmong pos ps.toList = some cv → ∃ c, cv = .ref c ∧ F c = some (LamX.CodeO c p.2)
  un : ∀ p ∈ K.tb.t, ∀ q ∈ K.tb.t, p.1 = q.1 → p.2 = q.2
  nf : ∀ p ∈ K.tb.t, F p.1 = none
/-- the shared heap -/
structure Rh (K : Kx) (F : Hp) (rho : List Addr) (h : List D) (H : Hp) : Prop where
  fro : Same F H
  len : h.length = rho.length
  obs : ∀ (n : Nat) (d : D) (a : Addr), h[n]? = some d → rho[n]? = some a → Ob K F rho H a d
  inj : ∀ (i j : Nat) (a : Addr), rho[i]? = some a → rho[j]? = some a → i = j
  nf : ∀ (n : Nat) (a : Addr), rho[n]? = some a → F a = none
  tb : TbOk K F H
  tr : ∀ p ∈ K.tb.t, ∀ n : Nat, ¬ rho[n]? = some p.1
/-- the base of a frame (or of a part of it): what may be changed is mu or new -/
structure Bs where
  H0 : Hp
  F0 : Hp
  r0 : List Addr
  mu : Addr → Prop
def SlOk (K : Kx) (F : Hp) (rho : List Addr) (om : Nat → Option Addr) (H : Hp) (i : Nat) (o : Option (Option V)) : Sl → Prop
  | .no => True
  | .val d => ∃ v, o = some (some v) ∧ Rp K F rho d v
  | .own d => ∃ a, om i = some a ∧ o = some (some (.ref a)) ∧ Ob K F rho H a d
/-- no tuple -/
@[reducible] def NT (o : HO) : Prop := ∀ xs, o ≠ .tup xs
structure Rl (K : Kx) (B : Bs) (F : Hp) (rho : List Addr) (om : Nat → Option Addr) (z : Z) (σ : L2.St) (H : Hp) : Prop where
  rh : Rh K F rho z.h H
  len : z.s.length = σ.length
  sl : ∀ (i : Nat) (x : Sl), z.s[i]? = some x → SlOk K F rho om H i σ[i]? x
  oj : ∀ (i j : Nat) (a : Addr), om i = some a → om j = some a → i = j
  orr : ∀ (i n : Nat) (a : Addr), om i = some a → ¬ rho[n]? = some a
  off : ∀ (i : Nat) (a : Addr), om i = some a → F a = none
  oth : ∀ (i : Nat) (a : Addr), om i = some a → ∃ o, H a = some o ∧ NT o
  frm : ∀ (a : Addr) (o : HO), B.H0 a = some o → ¬ B.mu a → H a = some o
  exf : Same B.F0 F
  exr : B.r0 <+: rho
  nF : ∀ (a : Addr) (o : HO), B.H0 a = some o → NT o → B.F0 a = none → ¬ B.mu a → F a = none
  nr : ∀ (n : Nat) (a : Addr), rho[n]? = some a → B.mu a ∨ B.H0 a = none
  no : ∀ (i : Nat) (a : Addr), om i = some a → B.mu a ∨ B.H0 a = none
  ow : ∀ (i : Nat) (a : Addr), om i = some a → ∃ d, z.s[i]? = some (.own d)
  to : ∀ p ∈ K.tb.t, ∀ i : Nat, ¬ om i = some p.1
  mt : ∀ p ∈ K.tb.t, B.mu p.1
/-- a value in passing: it may be the object that a slot owns -/
inductive Rv (K : Kx) (F : Hp) (rho : List Addr) (om : Nat → Option Addr) : D → V → Prop
  | pure {d : D} {v : V} : Rp K F rho d v → Rv K F rho om d v
  | own {i : Nat} {a : Addr} : om i = some a → Rv K F rho om (.own i) (.ref a)
theorem Rv.mono {K : Kx} {F F' : Hp} {rho rho' : List Addr} {om : Nat → Option Addr} (e : Same F F') (p : rho <+: rho') {d : D} {v : V} (h : Rv K F rho om d v) : Rv K F' rho' om d v := by
  cases h with
  | pure h => exact .pure (h.mono e p)
  | own h => exact .own h
section
variable {K : Kx} {B : Bs} {F F' : Hp} {rho rho' : List Addr} {om om' : Nat → Option Addr} {z z' : Z} {σ σ' : L2.St} {H H' : Hp} {a p : Addr} {d : D} {v : V}
theorem Ob.mono (e : Same F F') (q : rho <+: rho') (h1 : H' a = H a) (h : Ob K F rho H a d) : Ob K F' rho' H' a d := by
  cases d <;> try exact h.elim
  · obtain ⟨qs, e1, r, k, l⟩ := h
    exact ⟨qs, h1.trans e1, r.mono e q, k, l⟩
  · obtain ⟨xs, e1, r⟩ := h
    exact ⟨xs, h1.trans e1, r.mono e q⟩
  · obtain ⟨es, e1, k, r⟩ := h
    exact ⟨es, h1.trans e1, k, r.mono e q⟩
  · obtain ⟨es, e1, k, r⟩ := h
    exact ⟨es, h1.trans e1, k, r.mono e q⟩
  · obtain ⟨C, dx, es, m, e1, k, r⟩ := h
    exact ⟨C, dx, es, m, h1.trans e1, k, r.mono e q⟩
theorem Ob.there (h : Ob K F rho H a d) : ∃ o, H a = some o ∧ NT o := by
  cases d <;> try exact h.elim
  · obtain ⟨qs, e1, r⟩ := h
    exact ⟨_, e1, fun _ e => nomatch e⟩
  · obtain ⟨xs, e1, r⟩ := h
    exact ⟨_, e1, fun _ e => nomatch e⟩
  · obtain ⟨es, e1, r⟩ := h
    exact ⟨_, e1, fun _ e => nomatch e⟩
  · obtain ⟨es, e1, r⟩ := h
    exact ⟨_, e1, fun _ e => nomatch e⟩
  · obtain ⟨C, dx, es, m, e1, r⟩ := h
    exact ⟨_, e1, fun _ e => nomatch e⟩
theorem Rh.there (r : Rh K F rho z.h H) {n : Nat} (h : rho[n]? = some a) : ∃ o, H a = some o ∧ NT o := by
  have hl : n < z.h.length := by rw [r.len]; exact (List.getElem?_eq_some_iff.mp h).1
  exact (r.obs n z.h[n] a (List.getElem?_eq_getElem hl) h).there
theorem Rl.fresh0 (R : Rl K B F rho om z σ H) (h : H p = none) : B.H0 p = none ∨ B.mu p := by
  cases q : B.H0 p with
  | none => exact .inl rfl
  | some o =>
    by_cases m : B.mu p
    · exact .inr m
    · rw [R.frm p o q m] at h
      cases h
end
theorem Ob.nt {K : Kx} {F H : Hp} {rho : List Addr} {a : Addr} {d : D} {o : HO} (h : Ob K F rho H a d) (e : H a = some o) : NT o := by
  obtain ⟨o', e', n⟩ := h.there
  rw [e] at e'
  cases e'
  exact n
theorem Same.newu {H : Hp} {p : Addr} {o : HO} (h : H p = none) : Same H (upd H p o) := fun a u e => by
  rw [upd_ne (ne_of_none e h)]
  exact e
theorem Same.both {F H : Hp} {p : Addr} {o : HO} (e : Same F H) (h : H p = none) : Same (upd F p o) (upd H p o) := fun a u q => by
  by_cases c : a = p
  · subst c
    rw [upd_same] at q
    rw [upd_same]
    exact q
  · rw [upd_ne c] at q
    rw [upd_ne c]
    exact e _ _ q
theorem Same.upd_out {F H : Hp} {p : Addr} {o : HO} (e : Same F H) (h : F p = none) : Same F (upd H p o) := fun a u q => by
  rw [upd_ne (ne_of_none q h)]
  exact e _ _ q
end Mi
set_option Elab.async false
set_option linter.all false
set_option maxRecDepth 100000
namespace Mi
open PySem PySem.Spec PyProof.Rows L2
/-- an object that is there, of which nobody knows -/
structure Fresh (K : Kx) (B : Bs) (F : Hp) (rho : List Addr) (om : Nat → Option Addr) (H : Hp) (p : Addr) : Prop where
  f : F p = none
  r : ∀ n : Nat, ¬ rho[n]? = some p
  o : ∀ i : Nat, ¬ om i = some p
  b : B.mu p ∨ B.H0 p = none
  t : ∃ u, H p = some u ∧ NT u
  k : ∀ q ∈ K.tb.t, ¬ q.1 = p
def omSet (om : Nat → Option Addr) (i : Nat) (x : Option Addr) : Nat → Option Addr := fun j => if j = i then x else om j
theorem omSet_eq {om : Nat → Option Addr} {i : Nat} {x : Option Addr} : omSet om i x i = x := if_pos rfl
theorem omSet_ne {om : Nat → Option Addr} {i j : Nat} {x : Option Addr} (h : ¬ j = i) : omSet om i x j = om j := if_neg h
theorem omSet_none {om : Nat → Option Addr} {i j : Nat} {a : Addr} (h : omSet om i none j = some a) : ¬ j = i ∧ om j = some a := by
  by_cases c : j = i
  · subst c
    rw [omSet_eq] at h
    cases h
  · rw [omSet_ne c] at h
    exact ⟨c, h⟩
section
variable {K : Kx} {B : Bs} {F F' : Hp} {rho rho' : List Addr} {om om' : Nat → Option Addr} {z z' : Z} {σ σ' : L2.St} {H H' : Hp} {a p : Addr} {d : D} {v : V} {o : HO}
theorem SlOk.mono {i : Nat} {o : Option (Option V)} {x : Sl} (e : Same F F') (q : rho <+: rho') (h : SlOk K F rho om H i o x) (hk : ∀ a, om i = some a → H' a = H a) (ho : om' i = om i) : SlOk K F' rho' om' H' i o x := by
  cases x with
  | no => trivial
  | val d =>
    obtain ⟨v, e1, r⟩ := h
    exact ⟨v, e1, r.mono e q⟩
  | own d =>
    obtain ⟨a, e1, e2, r⟩ := h
    exact ⟨a, ho.trans e1, e2, r.mono e q (hk a e1)⟩
theorem Rh.mono1 {h : List D} (r : Rh K F rho h H) (e : Same F F') (fro : Same F' H') (hk : ∀ (n : Nat) a, rho[n]? = some a → H' a = H a) (nf : ∀ (n : Nat) a, rho[n]? = some a → F' a = none) (tb : TbOk K F' H') : Rh K F' rho h H' :=
  ⟨fro, r.len, fun n d a h1 h2 => (r.obs n d a h1 h2).mono e (List.prefix_refl _) (hk n a h2), r.inj, nf, tb, r.tr⟩
theorem TbOk.mono (t : TbOk K F H) (e : Same F F') (hk : ∀ p ∈ K.tb.t, H' p.1 = H p.1) (hf : ∀ p ∈ K.tb.t, F' p.1 = none) : TbOk K F' H' := by
  refine ⟨fun p hp => ?_, t.un, hf⟩
  obtain ⟨ps, h1, h2, h3⟩ := t.tb p hp
  refine ⟨ps, (hk p hp).trans h1, h2, fun pos cv hc => ?_⟩
  obtain ⟨c, e1, e2⟩ := h3 pos cv hc
  exact ⟨c, e1, e _ _ e2⟩
theorem TbOk.there (t : TbOk K F H) {q : Addr × Str} (hq : q ∈ K.tb.t) : ∃ o, H q.1 = some o := by
  obtain ⟨ps, h1, _⟩ := t.tb q hq
  exact ⟨_, h1⟩
theorem TbOk.ne (t : TbOk K F H) (h : H p = none) : ∀ q ∈ K.tb.t, ¬ q.1 = p := fun q hq e => by
  obtain ⟨u, hu⟩ := t.there hq
  rw [e, h] at hu
  cases hu
/-- what is not there is nobody's -/
theorem Rl.out (R : Rl K B F rho om z σ H) (h : H p = none) : F p = none ∧ (∀ n : Nat, ¬ rho[n]? = some p) ∧ (∀ i : Nat, ¬ om i = some p) ∧ (B.mu p ∨ B.H0 p = none) ∧ (∀ q ∈ K.tb.t, ¬ q.1 = p) := by
  refine ⟨R.rh.fro.free h, fun n e => ?_, fun i e => ?_, (R.fresh0 h).symm, R.rh.tb.ne h⟩
  · obtain ⟨u, q, _⟩ := R.rh.there (z := z) e
    rw [h] at q
    cases q
  · obtain ⟨u, q, _⟩ := R.oth i p e
    rw [h] at q
    cases q
/-- a new object, known to nobody -/
theorem Rl.new (R : Rl K B F rho om z σ H) (h : H p = none) (hn : NT o := by exact fun _ e => nomatch e) : Rl K B F rho om z σ (upd H p o) ∧ Fresh K B F rho om (upd H p o) p := by
  obtain ⟨h1, h2, h3, h4, h5⟩ := R.out h
  have nr : ∀ (n : Nat) a, rho[n]? = some a → a ≠ p := fun n a e q => h2 n (by rw [← q]; exact e)
  have no : ∀ (i : Nat) a, om i = some a → a ≠ p := fun i a e q => h3 i (by rw [← q]; exact e)
  refine ⟨⟨R.rh.mono1 (fun _ _ e => e) (Same.upd_out R.rh.fro h1) (fun n a e => upd_ne (nr n a e)) R.rh.nf (R.rh.tb.mono (fun _ _ e => e) (fun q hq => upd_ne (h5 q hq)) R.rh.tb.nf), R.len, fun i x e => (R.sl i x e).mono (fun _ _ e => e) (List.prefix_refl _) (fun a e => upd_ne (no i a e)) rfl, R.oj, R.orr, R.off,
    fun i a e => by rw [upd_ne (no i a e)]; exact R.oth i a e, fun a u e m => ?_, R.exf, R.exr, R.nF, R.nr, R.no, R.ow, R.to, R.mt⟩, ⟨h1, h2, h3, h4, ⟨_, upd_same, hn⟩, h5⟩⟩
  have q := R.frm a u e m
  rw [upd_ne (ne_of_none q h)]
  exact q
/-- a known object of nobody's is laid down for ever -/
theorem Rl.lay (R : Rl K B F rho om z σ H) (h : Fresh K B F rho om H p) (hp : H p = some o) : Rl K B (upd F p o) rho om z σ H ∧ Same F (upd F p o) := by
  have nr : ∀ (n : Nat) a, rho[n]? = some a → a ≠ p := fun n a e q => h.r n (by rw [← q]; exact e)
  have no : ∀ (i : Nat) a, om i = some a → a ≠ p := fun i a e q => h.o i (by rw [← q]; exact e)
  have s1 : Same F (upd F p o) := Same.newu h.f
  refine ⟨⟨R.rh.mono1 s1 (fun a u e => ?_) (fun _ _ _ => rfl) (fun n a e => by rw [upd_ne (nr n a e)]; exact R.rh.nf n a e) (R.rh.tb.mono s1 (fun _ _ => rfl) fun q hq => by rw [upd_ne (h.k q hq)]; exact R.rh.tb.nf q hq), R.len, fun i x e => (R.sl i x e).mono s1 (List.prefix_refl _) (fun _ _ => rfl) rfl, R.oj, R.orr,
    fun i a e => by rw [upd_ne (no i a e)]; exact R.off i a e, R.oth, R.frm, R.exf.trans s1, R.exr, fun a u e1 nt e2 m' => ?_, R.nr, R.no, R.ow, R.to, R.mt⟩, s1⟩
  · by_cases c : a = p
    · subst c
      rw [upd_same] at e
      rw [hp]
      exact e
    · rw [upd_ne c] at e
      exact R.rh.fro a u e
  · have c : a ≠ p := fun c => by
      subst c
      rcases h.b with q | q
      · exact m' q
      · rw [q] at e1
        cases e1
    rw [upd_ne c]
    exact R.nF a u e1 nt e2 m'
/-- .. at once -/
theorem Rl.alloc (R : Rl K B F rho om z σ H) (h : H p = none) : ∃ F', Rl K B F' rho om z σ (upd H p o) ∧ Same F F' ∧ F' p = some o := by
  obtain ⟨h1, h2, h3, h4, h5⟩ := R.out h
  have nr : ∀ (n : Nat) a, rho[n]? = some a → a ≠ p := fun n a e q => h2 n (by rw [← q]; exact e)
  have no : ∀ (i : Nat) a, om i = some a → a ≠ p := fun i a e q => h3 i (by rw [← q]; exact e)
  have s1 : Same F (upd F p o) := Same.newu h1
  refine ⟨upd F p o, ⟨R.rh.mono1 s1 (Same.both R.rh.fro h) (fun n a e => upd_ne (nr n a e)) (fun n a e => by rw [upd_ne (nr n a e)]; exact R.rh.nf n a e) (R.rh.tb.mono s1 (fun q hq => upd_ne (h5 q hq)) fun q hq => by rw [upd_ne (h5 q hq)]; exact R.rh.tb.nf q hq), R.len, fun i x e => (R.sl i x e).mono s1 (List.prefix_refl _) (fun a e => upd_ne (no i a e)) rfl, R.oj, R.orr,
    fun i a e => by rw [upd_ne (no i a e)]; exact R.off i a e, fun i a e => by rw [upd_ne (no i a e)]; exact R.oth i a e, fun a u e m => ?_, R.exf.trans s1, R.exr, fun a u e1 nt e2 m => ?_, R.nr, R.no, R.ow, R.to, R.mt⟩, s1, upd_same⟩
  · have q := R.frm a u e m
    rw [upd_ne (ne_of_none q h)]
    exact q
  · have q := R.frm a u e1 m
    rw [upd_ne (ne_of_none q h)]
    exact R.nF a u e1 nt e2 m
/-- a slot is set to a value -/
theorem Rl.setVal (R : Rl K B F rho om z σ H) (i : Nat) (r : Rp K F rho d v) : Rl K B F rho (omSet om i none) ⟨z.s.set i (.val d), z.h⟩ (σ.set i (some v)) H := by
  refine ⟨R.rh, by simp only [List.length_set]; exact R.len, fun j x e => ?_, fun a b c e1 e2 => R.oj a b c (omSet_none e1).2 (omSet_none e2).2, fun a b c e => R.orr a b c (omSet_none e).2, fun a c e => R.off a c (omSet_none e).2, fun a c e => R.oth a c (omSet_none e).2,
    R.frm, R.exf, R.exr, R.nF, R.nr, fun a c e => R.no a c (omSet_none e).2, fun j a e => by
      obtain ⟨c, e⟩ := omSet_none e
      obtain ⟨d', q⟩ := R.ow j a e
      exact ⟨d', by rw [← q]; exact List.getElem?_set_ne (Ne.symm c)⟩, fun p hp j e => R.to p hp j (omSet_none e).2, R.mt⟩
  have e : (z.s.set i (.val d))[j]? = some x := e
  by_cases c : j = i
  · subst c
    have hl : j < z.s.length := by
      have := (List.getElem?_eq_some_iff.mp e).1
      simpa using this
    rw [List.getElem?_set_self hl] at e
    cases e
    exact ⟨v, List.getElem?_set_self (by rw [← R.len]; exact hl), r⟩
  · rw [List.getElem?_set_ne (Ne.symm c)] at e
    rw [List.getElem?_set_ne (Ne.symm c)]
    exact (R.sl j x e).mono (fun _ _ e => e) (List.prefix_refl _) (fun _ _ => rfl) (omSet_ne c)
/-- a slot takes an object of nobody's -/
theorem Rl.setOwn (R : Rl K B F rho om z σ H) (i : Nat) (hi : i < z.s.length) (h : Fresh K B F rho om H p) (r : Ob K F rho H p d) : Rl K B F rho (omSet om i (some p)) ⟨z.s.set i (.own d), z.h⟩ (σ.set i (some (.ref p))) H := by
  have cs : ∀ {j : Nat} {a : Addr}, omSet om i (some p) j = some a → (j = i ∧ a = p) ∨ (¬ j = i ∧ om j = some a) := fun {j a} e => by
    by_cases c : j = i
    · subst c
      rw [omSet_eq] at e
      cases e
      exact .inl ⟨rfl, rfl⟩
    · rw [omSet_ne c] at e
      exact .inr ⟨c, e⟩
  refine ⟨R.rh, by simp only [List.length_set]; exact R.len, fun j x e => ?_, fun a b c e1 e2 => ?_, fun a b c e => ?_, fun a c e => ?_, fun a c e => ?_, R.frm, R.exf, R.exr, R.nF, R.nr, fun a c e => ?_, fun j a e => ?_, fun q hq j e => ?_, R.mt⟩
  · have e : (z.s.set i (.own d))[j]? = some x := e
    by_cases c : j = i
    · subst c
      have hl : j < z.s.length := by
        have := (List.getElem?_eq_some_iff.mp e).1
        simpa using this
      rw [List.getElem?_set_self hl] at e
      cases e
      exact ⟨p, omSet_eq, List.getElem?_set_self (by rw [← R.len]; exact hl), r⟩
    · rw [List.getElem?_set_ne (Ne.symm c)] at e
      rw [List.getElem?_set_ne (Ne.symm c)]
      exact (R.sl j x e).mono (fun _ _ e => e) (List.prefix_refl _) (fun _ _ => rfl) (omSet_ne c)
  · rcases cs e1 with ⟨rfl, rfl⟩ | ⟨n1, q1⟩
    · rcases cs e2 with ⟨rfl, _⟩ | ⟨n2, q2⟩
      · rfl
      · exact absurd q2 (h.o b)
    · rcases cs e2 with ⟨rfl, rfl⟩ | ⟨n2, q2⟩
      · exact absurd q1 (h.o a)
      · exact R.oj a b c q1 q2
  · rcases cs e with ⟨rfl, rfl⟩ | ⟨n1, q1⟩
    · exact h.r b
    · exact R.orr a b c q1
  · rcases cs e with ⟨rfl, rfl⟩ | ⟨n1, q1⟩
    · exact h.f
    · exact R.off a c q1
  · rcases cs e with ⟨rfl, rfl⟩ | ⟨n1, q1⟩
    · exact h.t
    · exact R.oth a c q1
  · rcases cs e with ⟨rfl, rfl⟩ | ⟨n1, q1⟩
    · exact h.b
    · exact R.no a c q1
  · rcases cs e with ⟨rfl, rfl⟩ | ⟨n1, q1⟩
    · exact ⟨d, List.getElem?_set_self hi⟩
    · obtain ⟨d', q⟩ := R.ow j a q1
      exact ⟨d', by rw [← q]; exact List.getElem?_set_ne (Ne.symm n1)⟩
  · rcases cs e with ⟨_, q2⟩ | ⟨_, q2⟩
    · exact h.k q hq q2
    · exact R.to q hq j q2
/-- what a slot owns is nobody else's -/
theorem Rl.freshOwn (R : Rl K B F rho om z σ H) {i : Nat} (e : om i = some p) : Fresh K B F rho (omSet om i none) H p :=
  ⟨R.off i p e, fun n => R.orr i n p e, fun j q => (omSet_none q).1 (R.oj j i p (omSet_none q).2 e), R.no i p e, R.oth i p e, fun q hq c => R.to q hq i (by rw [c]; exact e)⟩
/-- a slot forgets -/
theorem Rl.forget (R : Rl K B F rho om z σ H) (i : Nat) : Rl K B F rho (omSet om i none) ⟨z.s.set i .no, z.h⟩ σ H := by
  refine ⟨R.rh, by simp only [List.length_set]; exact R.len, fun j x e => ?_, fun a b c e1 e2 => R.oj a b c (omSet_none e1).2 (omSet_none e2).2, fun a b c e => R.orr a b c (omSet_none e).2, fun a c e => R.off a c (omSet_none e).2, fun a c e => R.oth a c (omSet_none e).2,
    R.frm, R.exf, R.exr, R.nF, R.nr, fun a c e => R.no a c (omSet_none e).2, fun j a e => by
      obtain ⟨c, e⟩ := omSet_none e
      obtain ⟨d', q⟩ := R.ow j a e
      exact ⟨d', by rw [← q]; exact List.getElem?_set_ne (Ne.symm c)⟩, fun p hp j e => R.to p hp j (omSet_none e).2, R.mt⟩
  have e : (z.s.set i .no)[j]? = some x := e
  by_cases c : j = i
  · subst c
    have hl : j < z.s.length := by
      have := (List.getElem?_eq_some_iff.mp e).1
      simpa using this
    rw [List.getElem?_set_self hl] at e
    cases e
    trivial
  · rw [List.getElem?_set_ne (Ne.symm c)] at e
    exact (R.sl j x e).mono (fun _ _ e => e) (List.prefix_refl _) (fun _ _ => rfl) (omSet_ne c)
/-- a slot's object is changed -/
theorem Rl.mutOwn (R : Rl K B F rho om z σ H) {i : Nat} {d0 : D} (e : om i = some p) (hs : z.s[i]? = some (.own d0)) (r : Ob K F rho (upd H p o) p d) : Rl K B F rho om ⟨z.s.set i (.own d), z.h⟩ σ (upd H p o) := by
  have nr : ∀ (n : Nat) a, rho[n]? = some a → a ≠ p := fun n a q c => R.orr i n p e (by rw [← c]; exact q)
  have no : ∀ (j : Nat) a, ¬ j = i → om j = some a → a ≠ p := fun j a c q c2 => c (R.oj j i p (by rw [← c2]; exact q) e)
  refine ⟨R.rh.mono1 (fun _ _ e => e) (Same.upd_out R.rh.fro (R.off i p e)) (fun n a q => upd_ne (nr n a q)) R.rh.nf (R.rh.tb.mono (fun _ _ e => e) (fun q hq => upd_ne fun c => R.to q hq i (by rw [c]; exact e)) R.rh.tb.nf), by simp only [List.length_set]; exact R.len, fun j x q => ?_, R.oj, R.orr, R.off, fun j a q => ?_, fun a u q m => ?_, R.exf, R.exr, R.nF, R.nr, R.no, fun j a q => ?_, R.to, R.mt⟩
  · have q : (z.s.set i (.own d))[j]? = some x := q
    by_cases c : j = i
    · subst c
      have hl : j < z.s.length := (List.getElem?_eq_some_iff.mp hs).1
      rw [List.getElem?_set_self hl] at q
      cases q
      obtain ⟨a, e1, e2, _⟩ := R.sl j _ hs
      rw [e] at e1
      cases e1
      exact ⟨p, e, e2, r⟩
    · rw [List.getElem?_set_ne (Ne.symm c)] at q
      exact (R.sl j x q).mono (fun _ _ e => e) (List.prefix_refl _) (fun a h => upd_ne (no j a c h)) rfl
  · by_cases c : a = p
    · subst c
      exact ⟨_, upd_same, r.nt upd_same⟩
    · rw [upd_ne c]
      exact R.oth j a q
  · have c : a ≠ p := fun c => by
      subst c
      rcases R.no i a e with h | h
      · exact m h
      · rw [h] at q
        cases q
    rw [upd_ne c]
    exact R.frm a u q m
  · by_cases c : j = i
    · subst c
      exact ⟨d, List.getElem?_set_self (List.getElem?_eq_some_iff.mp hs).1⟩
    · obtain ⟨d', q2⟩ := R.ow j a q
      exact ⟨d', by rw [← q2]; exact List.getElem?_set_ne (Ne.symm c)⟩
/-- an object of the shared heap is changed -/
theorem Rl.mutRef (R : Rl K B F rho om z σ H) {n : Nat} (e : rho[n]? = some p) (r : Ob K F rho (upd H p o) p d) : Rl K B F rho om ⟨z.s, z.h.set n d⟩ σ (upd H p o) := by
  have no : ∀ (j : Nat) a, om j = some a → a ≠ p := fun j a q c => R.orr j n p (by rw [← c]; exact q) e
  have hn : n < z.h.length := by rw [R.rh.len]; exact (List.getElem?_eq_some_iff.mp e).1
  refine ⟨⟨Same.upd_out R.rh.fro (R.rh.nf n p e), by simp only [List.length_set]; exact R.rh.len, fun m d' a h1 h2 => ?_, R.rh.inj, R.rh.nf, R.rh.tb.mono (fun _ _ e => e) (fun q hq => upd_ne fun c => R.rh.tr q hq n (by rw [c]; exact e)) R.rh.tb.nf, R.rh.tr⟩, R.len, fun j x q => (R.sl j x q).mono (fun _ _ e => e) (List.prefix_refl _) (fun a h => upd_ne (no j a h)) rfl, R.oj, R.orr, R.off,
    fun j a q => by rw [upd_ne (no j a q)]; exact R.oth j a q, fun a u q m => ?_, R.exf, R.exr, R.nF, R.nr, R.no, R.ow, R.to, R.mt⟩
  · by_cases c : m = n
    · subst c
      rw [List.getElem?_set_self hn] at h1
      cases h1
      rw [e] at h2
      cases h2
      exact r
    · rw [List.getElem?_set_ne (Ne.symm c)] at h1
      have ca : a ≠ p := fun q => c (R.rh.inj m n p (by rw [← q]; exact h2) e)
      exact (R.rh.obs m d' a h1 h2).mono (fun _ _ e => e) (List.prefix_refl _) (upd_ne ca)
  · have c : a ≠ p := fun c => by
      subst c
      rcases R.nr n a e with h | h
      · exact m h
      · rw [h] at q
        cases q
    rw [upd_ne c]
    exact R.frm a u q m
/-- an object of nobody's joins the shared heap -/
theorem Rl.share (R : Rl K B F rho om z σ H) (h : Fresh K B F rho om H p) (r : Ob K F rho H p d) : Rl K B F (rho ++ [p]) om ⟨z.s, z.h ++ [d]⟩ σ H ∧ (rho ++ [p])[z.h.length]? = some p := by
  have px : rho <+: rho ++ [p] := List.prefix_append _ _
  have last : (rho ++ [p])[z.h.length]? = some p := by rw [R.rh.len, List.getElem?_append_right (Nat.le_refl _), Nat.sub_self]; rfl
  have cs : ∀ {n : Nat} {a : Addr}, (rho ++ [p])[n]? = some a → rho[n]? = some a ∨ (n = rho.length ∧ a = p) := fun {n a} e => by
    rcases Nat.lt_trichotomy n rho.length with c | c | c
    · rw [List.getElem?_append_left c] at e
      exact .inl e
    · subst c
      rw [List.getElem?_append_right (Nat.le_refl _), Nat.sub_self] at e
      exact .inr ⟨rfl, (Option.some.inj e).symm⟩
    · rw [List.getElem?_append_right (Nat.le_of_lt c)] at e
      have : 1 ≤ n - rho.length := by omega
      rw [List.getElem?_eq_none (by simpa using this)] at e
      cases e
  refine ⟨⟨⟨R.rh.fro, by simp only [List.length_append, List.length_singleton]; rw [R.rh.len], fun n d' a h1 h2 => ?_, fun i j a h1 h2 => ?_, fun n a h1 => ?_, R.rh.tb, fun q hq n e => ?_⟩, R.len, fun j x q => (R.sl j x q).mono (fun _ _ e => e) px (fun _ _ => rfl) rfl, R.oj, fun i n a q e => ?_, R.off, R.oth, R.frm, R.exf, R.exr.trans px, R.nF, fun n a q => ?_, R.no, R.ow, R.to, R.mt⟩, last⟩
  · rcases cs h2 with q | ⟨q, rfl⟩
    · have hl : n < z.h.length := by rw [R.rh.len]; exact (List.getElem?_eq_some_iff.mp q).1
      rw [List.getElem?_append_left hl] at h1
      exact (R.rh.obs n d' a h1 q).mono (fun _ _ e => e) px rfl
    · subst q
      rw [← R.rh.len, List.getElem?_append_right (Nat.le_refl _), Nat.sub_self] at h1
      cases (show some d = some d' from h1)
      exact r.mono (fun _ _ e => e) px rfl
  · rcases cs h1 with q | ⟨q, rfl⟩
    · rcases cs h2 with q2 | ⟨q2, rfl⟩
      · exact R.rh.inj i j a q q2
      · exact absurd q (h.r i)
    · rcases cs h2 with q2 | ⟨q2, _⟩
      · exact absurd q2 (h.r j)
      · omega
  · rcases cs h1 with q | ⟨_, rfl⟩
    · exact R.rh.nf n a q
    · exact h.f
  · rcases cs e with q2 | ⟨_, q2⟩
    · exact R.rh.tr q hq n q2
    · exact h.k q hq q2
  · rcases cs e with q2 | ⟨_, rfl⟩
    · exact R.orr i n a q q2
    · exact h.o i q
  · rcases cs q with q2 | ⟨_, rfl⟩
    · exact R.nr n a q2
    · exact h.b
/-- the heap as it stands, as a base -/
def reb (K : Kx) (F : Hp) (rho : List Addr) (om : Nat → Option Addr) (H : Hp) : Bs := ⟨H, F, rho, fun a => ((∃ i : Nat, om i = some a) ∨ ∃ n : Nat, rho[n]? = some a) ∨ ∃ p ∈ K.tb.t, p.1 = a⟩
theorem Rl.reb (R : Rl K B F rho om z σ H) : Rl K (reb K F rho om H) F rho om z σ H :=
  ⟨R.rh, R.len, R.sl, R.oj, R.orr, R.off, R.oth, fun _ _ e _ => e, fun _ _ e => e, List.prefix_refl _, fun _ _ _ _ e _ => e, fun n a e => .inl (.inl (.inr ⟨n, e⟩)), fun i a e => .inl (.inl (.inl ⟨i, e⟩)), R.ow, R.to, fun p hp => .inr ⟨p, hp, rfl⟩⟩
/-- back to the base before -/
theorem Rl.back (R : Rl K B F rho om z σ H) (S : Rl K (Mi.reb K F rho om H) F' rho' om' z' σ' H') : Rl K B F' rho' om' z' σ' H' := by
  have notmu : ∀ a u, B.H0 a = some u → ¬ B.mu a → ¬ (((∃ i : Nat, om i = some a) ∨ ∃ n : Nat, rho[n]? = some a) ∨ ∃ p ∈ K.tb.t, p.1 = a) := fun a u e m q => by
    rcases q with (⟨i, q⟩ | ⟨n, q⟩) | ⟨p, hp, rfl⟩
    · rcases R.no i a q with h | h
      · exact m h
      · rw [h] at e
        cases e
    · rcases R.nr n a q with h | h
      · exact m h
      · rw [h] at e
        cases e
    · exact m (R.mt p hp)
  have old : ∀ a, (Mi.reb K F rho om H).mu a ∨ (Mi.reb K F rho om H).H0 a = none → B.mu a ∨ B.H0 a = none := fun a q => by
    rcases q with ((⟨i, q⟩ | ⟨n, q⟩) | ⟨p, hp, rfl⟩) | q
    · exact R.no i a q
    · exact R.nr n a q
    · exact .inl (R.mt p hp)
    · exact (R.fresh0 q).symm
  refine ⟨S.rh, S.len, S.sl, S.oj, S.orr, S.off, S.oth, fun a u e m => S.frm a u (R.frm a u e m) (notmu a u e m), R.exf.trans S.exf, R.exr.trans S.exr, fun a u e1 nt e2 m => S.nF a u (R.frm a u e1 m) nt (R.nF a u e1 nt e2 m) (notmu a u e1 m), fun n a q => old a (S.nr n a q), fun i a q => old a (S.no i a q), S.ow, S.to, R.mt⟩
/-- through a part of an evaluation an object of nobody's stays as it was -/
theorem Fresh.through (f : Fresh K B F rho om H p) (S : Rl K (Mi.reb K F rho om H) F' rho' om' z' σ' H') (hb : ∀ i, om' i = some p → om i = some p) : Fresh K B F' rho' om' H' p ∧ H' p = H p := by
  obtain ⟨u, hu, nt⟩ := f.t
  have nm : ¬ (Mi.reb K F rho om H).mu p := fun q => by
    rcases q with (⟨i, q⟩ | ⟨n, q⟩) | ⟨q, hq, c⟩
    · exact f.o i q
    · exact f.r n q
    · exact f.k q hq c
  have e := S.frm p u hu nm
  refine ⟨⟨S.nF p u hu nt f.f nm, fun n q => ?_, fun i q => f.o i (hb i q), f.b, ⟨u, e, nt⟩, f.k⟩, e.trans hu.symm⟩
  rcases S.nr n p q with q | q
  · exact nm q
  · have q : H p = none := q
    rw [hu] at q
    cases q
end
/-- what a def does: the arguments and the shared heap go to a value and a heap, or it is not told -/
abbrev Fn := List D → List D → Option (D × List D)
def spM (n : Nat) (K : Kx) (mf : Fn) : Sp := fun vs H Q _ => vs.length = n ∧ ∃ (F : Hp) (rho : List Addr) (h : List D) (ds : List D), Rh K F rho h H ∧ Rps K F rho ds vs ∧ ∃ (d : D) (h' : List D), mf ds h = some (d, h') ∧
  ∀ (F' : Hp) (rho' : List Addr) (H' : Hp) (v : V), Same F F' → rho <+: rho' → Rh K F' rho' h' H' → (∀ a o, H a = some o → (∀ n : Nat, ¬ rho[n]? = some a) → (∀ p ∈ K.tb.t, ¬ p.1 = a) → H' a = some o) →
    (∀ a o, H a = some o → NT o → F a = none → (∀ n : Nat, ¬ rho[n]? = some a) → F' a = none) → (∀ (n : Nat) a, rho'[n]? = some a → (∃ m : Nat, rho[m]? = some a) ∨ H a = none) → Rp K F' rho' d v → Q v H'
section
variable {K : Kx} {B : Bs} {F F' : Hp} {rho rho' : List Addr} {om om' : Nat → Option Addr} {z z' : Z} {σ σ' : L2.St} {H H' : Hp} {a p : Addr} {d : D} {v : V} {o : HO}
/-- behind a call -/
theorem Rl.called {h' : List D} (R : Rl K B F rho om z σ H) (e1 : Same F F') (e2 : rho <+: rho') (r : Rh K F' rho' h' H') (fr : ∀ a o, H a = some o → (∀ n : Nat, ¬ rho[n]? = some a) → (∀ p ∈ K.tb.t, ¬ p.1 = a) → H' a = some o)
    (nf : ∀ a o, H a = some o → NT o → F a = none → (∀ n : Nat, ¬ rho[n]? = some a) → F' a = none) (nr : ∀ (n : Nat) a, rho'[n]? = some a → (∃ m : Nat, rho[m]? = some a) ∨ H a = none) : Rl K B F' rho' om ⟨z.s, h'⟩ σ H' := by
  have keep : ∀ (i : Nat) a, om i = some a → H' a = H a := fun i a e => by
    obtain ⟨u, hu, _⟩ := R.oth i a e
    rw [fr a u hu (fun n => R.orr i n a e) (fun p hp c => R.to p hp i (by rw [c]; exact e)), hu]
  have nrho : ∀ a u, B.H0 a = some u → ¬ B.mu a → ∀ n : Nat, ¬ rho[n]? = some a := fun a u e m n q => by
    rcases R.nr n a q with h | h
    · exact m h
    · rw [h] at e
      cases e
  refine ⟨r, R.len, fun i x q => (R.sl i x q).mono e1 e2 (keep i) rfl, R.oj, fun i n a q q2 => ?_, fun i a q => ?_, fun i a q => by rw [keep i a q]; exact R.oth i a q, fun a u q m => fr a u (R.frm a u q m) (nrho a u q m) (fun p hp c => m (by rw [← c]; exact R.mt p hp)), R.exf.trans e1, R.exr.trans e2,
    fun a u q1 nt q2 m => nf a u (R.frm a u q1 m) nt (R.nF a u q1 nt q2 m) (nrho a u q1 m), fun n a q => ?_, R.no, R.ow, R.to, R.mt⟩
  · rcases nr n a q2 with ⟨m, h⟩ | h
    · exact R.orr i m a q h
    · obtain ⟨u, hu, _⟩ := R.oth i a q
      rw [h] at hu
      cases hu
  · obtain ⟨u, hu, nt⟩ := R.oth i a q
    exact nf a u hu nt (R.off i a q) fun n => R.orr i n a q
  · rcases nr n a q with ⟨m, h⟩ | h
    · exact R.nr m a h
    · exact (R.fresh0 h).symm
/-- a frame's start -/
def slots (n : Nat) (ds : List D) : List Sl := ds.map Sl.val ++ List.replicate (n - ds.length) Sl.no
theorem slots_get {n : Nat} {ds : List D} {i : Nat} {x : Sl} (h : (slots n ds)[i]? = some x) : x = .no ∨ ∃ d, ds[i]? = some d ∧ x = .val d := by
  unfold slots at h
  rcases Nat.lt_or_ge i (ds.map Sl.val).length with c | c
  · rw [List.getElem?_append_left c, List.getElem?_map] at h
    cases q : ds[i]? with
    | none =>
      rw [q] at h
      cases h
    | some d =>
      rw [q] at h
      exact .inr ⟨d, rfl, (Option.some.inj h).symm⟩
  · rw [List.getElem?_append_right c, List.getElem?_replicate] at h
    split at h
    · exact .inl (Option.some.inj h).symm
    · cases h
theorem start_get {N : List Str} {vs : List V} {i : Nat} {v : V} (h : vs[i]? = some v) : (L2.start N vs)[i]? = some (some v) := by
  unfold L2.start
  have hl := (List.getElem?_eq_some_iff.mp h).1
  rw [List.getElem?_append_left (by simpa using hl), List.getElem?_map, h]
  rfl
theorem Rl.begin {h : List D} {ds : List D} {vs : List V} {N : List Str} (r : Rh K F rho h H) (q : Rps K F rho ds vs) (hl : vs.length ≤ N.length) :
    Rl K ⟨H, F, rho, fun a => (∃ n : Nat, rho[n]? = some a) ∨ ∃ p ∈ K.tb.t, p.1 = a⟩ F rho (fun _ => none) ⟨slots N.length ds, h⟩ (L2.start N vs) H := by
  refine ⟨r, ?_, fun i x e => ?_, (fun _ _ _ e => nomatch e), (fun _ _ _ e => nomatch e), (fun _ _ e => nomatch e), (fun _ _ e => nomatch e), fun _ _ e _ => e, fun _ _ e => e, List.prefix_refl _, fun _ _ _ _ e _ => e, fun n a e => .inl (.inl ⟨n, e⟩), (fun _ _ e => nomatch e), (fun _ _ e => nomatch e), (fun _ _ _ e => nomatch e), fun p hp => .inr ⟨p, hp, rfl⟩⟩
  · unfold slots L2.start
    rw [List.length_append, List.length_append, List.length_map, List.length_map, List.length_replicate, List.length_replicate, q.length]
  · rcases slots_get e with rfl | ⟨d, h1, rfl⟩
    · trivial
    · obtain ⟨v, h2, r2⟩ := q.get h1
      exact ⟨v, start_get h2, r2⟩
end
end Mi
set_option Elab.async false
set_option linter.all false
set_option maxRecDepth 100000
namespace Mi
open PySem PySem.Spec PyProof.Rows L2
abbrev M (α : Type) := Z → Option (α × Z)
def bnd {α β : Type} (a : M α) (f : α → M β) : M β := fun z => match a z with
  | none => none
  | some (x, z1) => f x z1
def ret {α : Type} (x : α) : M α := fun z => some (x, z)
def isPure : D → Bool
  | .own _ => false
  | _ => true
/-- the items of a list or a tuple (true: a tuple) -/
def cont (d : D) (z : Z) : Option (Bool × List D) := match d with
  | .lst xs => some (false, xs)
  | .tup xs => some (true, xs)
  | .kt xs => some (true, xs)
  | .scr xs => some (false, xs)
  | .ref n => match z.h[n]? with
    | some (.lst xs) => some (false, xs)
    | _ => none
  | .own i => match z.s[i]? with
    | some (.own (.lst xs)) => some (false, xs)
    | _ => none
  | _ => none
/-- lists stay below this length -/
def szl : Nat := 1000000
namespace E
def var (i : Nat) : M D := fun z => match z.s[i]? with
  | some (.val d) => some (d, z)
  | some (.own _) => some (.own i, z)
  | _ => none
def c (d : D) : M D := ret d
/-- a two-place operation that changes nothing -/
def op (f : D → D → Z → Option D) (a b : M D) : M D := bnd a fun x => bnd b fun y => fun z => match f x y z with
  | none => none
  | some d => some (d, z)
def un (f : D → Z → Option D) (a : M D) : M D := bnd a fun x => fun z => match f x z with
  | none => none
  | some d => some (d, z)
def args : List (M D) → M (List D)
  | [] => ret []
  | a :: as => bnd a fun x => bnd (args as) fun xs => if isPure x = true then ret (x :: xs) else fun _ => none
def tup (as : List (M D)) : M D := bnd (args as) fun xs => ret (.tup xs)
/-- a new list that nobody changes -/
def frz (m : M (List D)) : M D := bnd m fun xs => ret (.lst xs)
/-- a new list of the shared heap -/
def shr (m : M (List D)) : M D := bnd m fun xs z => some (.ref z.h.length, ⟨z.s, z.h ++ [.lst xs]⟩)
def call (mf : Fn) (as : List (M D)) : M D := bnd (args as) fun xs z => match mf xs z.h with
  | none => none
  | some (d, h') => some (d, ⟨z.s, h'⟩)
/-- a built-in's call by values -/
def blt (f : List D → Z → Option D) (as : List (M D)) : M D := fun z => match as with
  | [] => none
  | [a] => bnd a (fun x => fun z => match f [x] z with
    | none => none
    | some d => some (d, z)) z
  | _ => bnd (args as) (fun xs z => match f xs z with
    | none => none
    | some d => some (d, z)) z
def ite (t : M Bool) (a b : M D) : M D := bnd t fun k => if k = true then a else b
def and (a b : M D) : M D := bnd a fun x => match x with
  | .bl true => b
  | .bl false => ret (.bl false)
  | _ => fun _ => none
def or (a b : M D) : M D := bnd a fun x => match x with
  | .bl false => b
  | .bl true => ret (.bl true)
  | _ => fun _ => none
def not (a : M D) : M D := bnd a fun x => match x with
  | .bl k => ret (.bl (!k))
  | _ => fun _ => none
/-- a < b < c by two operations -/
def chain (f g : D → D → Z → Option D) (a b c : M D) : M D := bnd a fun x => bnd b fun y => fun z => match f x y z with
  | some (.bl true) => bnd c (fun w z => match g y w z with
    | some (.bl k) => some (.bl k, z)
    | _ => none) z
  | some (.bl false) => some (.bl false, z)
  | _ => none
def isN (a : M D) : M D := bnd a fun x => match x with
  | .non => ret (.bl true)
  | _ => ret (.bl false)
def notN (a : M D) : M D := bnd a fun x => match x with
  | .non => ret (.bl false)
  | _ => ret (.bl true)
/-- xs.m(..) of a list that is changed: f takes the items and the arguments to a value and the items -/
def chgF (f : List D → List D → Option (D × List D)) (x : D) (xs : List D) : M D := fun z => match x with
  | .own i => match z.s[i]? with
    | some (.own (.lst ds)) => match f ds xs with
      | none => none
      | some (d, ds') => some (d, ⟨z.s.set i (.own (.lst ds')), z.h⟩)
    | _ => none
  | .ref n => match z.h[n]? with
    | some (.lst ds) => match f ds xs with
      | none => none
      | some (d, ds') => some (d, ⟨z.s, z.h.set n (.lst ds')⟩)
    | _ => none
  | _ => none
def isLst (x : D) (z : Z) : Bool := match x with
  | .own _ => (cont x z).isSome
  | .ref _ => (cont x z).isSome
  | _ => false
def chg (f : List D → List D → Option (D × List D)) (a : M D) (as : List (M D)) : M D := bnd a fun x => fun z => if isLst x z = true then bnd (args as) (fun xs => chgF f x xs) z else none
end E
def bigN : Nat := 4096
/-- an int of a size that products take -/
def smI (i : Int) : Prop := i.natAbs < 2 ^ bigN
namespace O
def add : D → D → Z → Option D
  | .int i, .int j, _ => some (.int (i + j))
  | _, _, _ => none
def sub : D → D → Z → Option D
  | .int i, .int j, _ => some (.int (i - j))
  | _, _, _ => none
open Classical in
noncomputable def mul : D → D → Z → Option D
  | .int i, .int j, _ => if smI i ∧ smI j then some (.int (i * j)) else none
  | _, _, _ => none
open Classical in
noncomputable def div : D → D → Z → Option D
  | .int i, .int j, _ => if 0 < j ∧ smI j then some (.int (i / j)) else none
  | _, _, _ => none
def mod : D → D → Z → Option D
  | .int i, .int j, _ => if 0 < j then some (.int (i % j)) else none
  | _, _, _ => none
def lt : D → D → Z → Option D
  | .int i, .int j, _ => some (.bl (decide (i < j)))
  | _, _, _ => none
def le : D → D → Z → Option D
  | .int i, .int j, _ => some (.bl (decide (i ≤ j)))
  | _, _, _ => none
def gt : D → D → Z → Option D
  | .int i, .int j, _ => some (.bl (decide (j < i)))
  | _, _, _ => none
def ge : D → D → Z → Option D
  | .int i, .int j, _ => some (.bl (decide (j ≤ i)))
  | _, _, _ => none
def neg : D → Z → Option D
  | .int i, _ => some (.int (-i))
  | _, _ => none
def ix (x y : D) (z : Z) : Option D := match cont x z, y with
  | some (_, ds), .int i => atI ds i
  | _, _ => none
mutual
def toP : D → Option PyData
  | .non => some .none
  | .bl b => some (.bool b)
  | .int i => some (.int i)
  | .str x => some (.str x)
  | .tup xs => (toPs xs).map .tuple
  | .kt xs => (toPs xs).map .tuple
  | .lst xs => (toPs xs).map .list
  | .scr xs => (toPs xs).map .list
  | _ => none
def toPs : List D → Option (List PyData)
  | [] => some []
  | x :: xs => match toP x, toPs xs with
    | some a, some as => some (a :: as)
    | _, _ => none
end
/-- a list that may change, as it stands -/
def snap (x : D) (z : Z) : D := match x with
  | .own _ => match cont x z with
    | some (_, ds) => .lst ds
    | none => .own 0
  | .ref _ => match cont x z with
    | some (_, ds) => .lst ds
    | none => .own 0
  | _ => x
def eqD (x y : D) (z : Z) : Option Bool := match toP (snap x z), toP (snap y z) with
  | some a, some b => if SeqAt.shaped a = true ∧ SeqAt.shaped b = true then some (PyData.eqv a b) else none
  | _, _ => none
def eqP (x y : D) (z : Z) : Option Bool := match x, y with
  | .str a, .str b => some (decide (a = b))
  | x, y => eqD x y z
def eq (x y : D) (z : Z) : Option D := (eqP x y z).map .bl
def ne (x y : D) (z : Z) : Option D := (eqP x y z).map fun k => .bl (!k)
/-- truth -/
def tru (x : D) (z : Z) : Option Bool := match x with
  | .non => some false
  | .bl b => some b
  | .int i => some (i != 0)
  | _ => match cont x z with
    | some (_, ds) => some (!ds.isEmpty)
    | none => none
end O
namespace F
def len : List D → Z → Option D
  | [x], z => match cont x z with
    | some (_, ds) => some (.int ds.length)
    | none => none
  | _, _ => none
def abs : List D → Z → Option D
  | [.int i], _ => some (.int (if i < 0 then -i else i))
  | _, _ => none
def max2 : List D → Z → Option D
  | [.int i, .int j], _ => some (.int (if j > i then j else i))
  | _, _ => none
def min2 : List D → Z → Option D
  | [.int i, .int j], _ => some (.int (if j < i then j else i))
  | _, _ => none
def int1 : List D → Z → Option D
  | [.int i], _ => some (.int i)
  | [.bl k], _ => some (.int (if k then 1 else 0))
  | _, _ => none
def tuple : List D → Z → Option D
  | [.kt _], _ => none
  | [x], z => match cont x z with
    | some (_, ds) => some (.tup ds)
    | none => none
  | _, _ => none
def ofInts : List D → Option (List Int)
  | [] => some []
  | .int i :: r => (ofInts r).map (i :: ·)
  | _ :: _ => none
/-- of a list (no tuple) -/
def lstI (x : D) (z : Z) : Option (List Int) := match cont x z with
  | some (false, ds) => ofInts ds
  | _ => none
def sum : List D → Z → Option D
  | [x], z => (lstI x z).map fun ns => .int ns.sum
  | _, _ => none
/-- isinstance(x, T) of a built-in class T: the class's name given -/
def tyName : D → Z → Option String
  | .non, _ => some "NoneType"
  | .bl _, _ => some "bool"
  | .int _, _ => some "int"
  | .str _, _ => some "str"
  | .tup _, _ => some "tuple"
  | .kt _, _ => some "tuple"
  | .lst _, _ => some "list"
  | .ref n, z => match z.h[n]? with
    | some (.lst _) => some "list"
    | _ => none
  | .own i, z => match z.s[i]? with
    | some (.own (.lst _)) => some "list"
    | _ => none
  | _, _ => none
end F
namespace U
def append (ds xs : List D) : Option (D × List D) := match xs with
  | [x] => if ds.length < szl then some (.non, ds ++ [x]) else none
  | _ => none
def popAt (ds xs : List D) : Option (D × List D) := match xs with
  | [.int i] => if -(2 ^ 63) ≤ i ∧ i < 2 ^ 63 then match ixN ds.length i with
    | some k => match ds[k]? with
      | some d => some (d, ds.eraseIdx k)
      | none => none
    | none => none else none
  | _ => none
/-- extend by a list that stands still -/
def extend (ds xs : List D) : Option (D × List D) := match xs with
  | [.lst ys] => if ds.length + ys.length < szl then some (.non, ds ++ ys) else none
  | _ => none
def setAt (ds : List D) (i : Int) (x : D) : Option (List D) := (ixN ds.length i).map fun k => ds.set k x
end U
namespace N
def disp (as : List (M D)) : M (List D) := E.args as
def ofSeq (a : M D) : M (List D) := bnd a fun x z => match cont x z with
  | some (_, ds) => some (ds, z)
  | none => none
def cutL {α : Type} (ds : List α) (lo hi : Option Int) : List α := (ds.drop (HT.sIx ds.length 0 lo)).take (HT.sIx ds.length ds.length hi - HT.sIx ds.length 0 lo)
def part (a : Option (M D)) : M (Option Int) := match a with
  | none => ret none
  | some m => bnd m fun x => match x with
    | .int i => ret (some i)
    | _ => fun _ => none
/-- xs[lo:hi] of a list -/
def slice (a : M D) (lo hi : Option (M D)) : M (List D) := bnd a fun x => bnd (part lo) fun l => bnd (part hi) fun u z => match cont x z with
  | some (false, ds) => some (cutL ds l u, z)
  | _ => none
/-- xs + ys of lists -/
def cat (a b : M D) : M (List D) := bnd a fun x => bnd b fun y z => match x, y with
  | .scr _, _ => none
  | _, .scr _ => none
  | _, _ => match cont x z, cont y z with
    | some (false, ds), some (false, es) => if ds.length + es.length < szl then some (ds ++ es, z) else none
    | _, _ => none
end N
namespace T
def val (a : M D) : M Bool := bnd a fun x => match x with
  | .bl k => ret k
  | _ => fun _ => none
def tru (a : M D) : M Bool := bnd a fun x z => match O.tru x z with
  | some k => some (k, z)
  | none => none
def and (a b : M Bool) : M Bool := bnd a fun k => if k = true then b else ret false
def or (a b : M Bool) : M Bool := bnd a fun k => if k = true then ret true else b
def not (a : M Bool) : M Bool := bnd a fun k => ret (!k)
end T
/-- a target: which slots it sets, and how -/
structure G where
  ws : List Nat
  run : D → Z → Option Z
namespace G
def nm (i : Nat) : G := ⟨[i], fun d z => some ⟨z.s.set i (.val d), z.h⟩⟩
def runs : List G → List D → Z → Option Z
  | [], [], z => some z
  | g :: gs, d :: ds, z => match g.run d z with
    | none => none
    | some z1 => runs gs ds z1
  | _, _, _ => none
def tp (gs : List G) : G := ⟨gs.flatMap G.ws, fun d z => match d with
  | .tup ds => runs gs ds z
  | .kt ds => runs gs ds z
  | _ => none⟩
/-- .. of a list -/
def tl (gs : List G) : G := ⟨gs.flatMap G.ws, fun d z => match d with
  | .lst ds => runs gs ds z
  | _ => none⟩
end G
structure It where
  items : List D
  chk : Option D
open Classical in
noncomputable def It.ok (it : It) (z : Z) : Bool := match it.chk with
  | none => true
  | some d => if ∃ b, cont d z = some (b, it.items) then true else false
namespace I
def seq (a : M D) : M It := bnd a fun x z => match x with
  | .lst xs => some (⟨xs, none⟩, z)
  | .tup xs => some (⟨xs, none⟩, z)
  | .kt xs => some (⟨xs, none⟩, z)
  | .scr xs => some (⟨xs, none⟩, z)
  | .ref _ => match cont x z with
    | some (_, xs) => some (⟨xs, some x⟩, z)
    | none => none
  | _ => none
/-- in a comprehension a slot's own list, too -/
def seqF (x : D) (z : Z) : Option (It × Z) := match x with
  | .lst xs => some (⟨xs, none⟩, z)
  | .tup xs => some (⟨xs, none⟩, z)
  | .kt xs => some (⟨xs, none⟩, z)
  | .scr xs => some (⟨xs, none⟩, z)
  | .ref _ => match cont x z with
    | some (_, xs) => some (⟨xs, some x⟩, z)
    | none => none
  | .own _ => match cont x z with
    | some (_, xs) => some (⟨xs, some x⟩, z)
    | none => none
  | _ => none
def seqC (a : M D) : M It := bnd a seqF
def irng (lo : Int) (n : Nat) : List D := (List.range n).map fun i => D.int (lo + (i : Nat))
def rng1 (a : M D) : M It := bnd a fun x => match x with
  | .int n => if -(2 ^ 62) ≤ n ∧ n < 2 ^ 62 then ret ⟨irng 0 n.toNat, none⟩ else fun _ => none
  | _ => fun _ => none
def rng2 (a b : M D) : M It := bnd a fun x => bnd b fun y => match x, y with
  | .int i, .int j => if (-(2 ^ 62) ≤ i ∧ i < 2 ^ 62) ∧ -(2 ^ 62) ≤ j ∧ j < 2 ^ 62 then ret ⟨irng i (j - i).toNat, none⟩ else fun _ => none
  | _, _ => fun _ => none
end I
namespace N
def wipe (s : List Sl) : List Nat → List Sl
  | [] => s
  | v :: vs => (wipe s vs).set v .no
def rest (s0 s : List Sl) : List Nat → List Sl
  | [] => s
  | v :: vs => match s0[v]? with
    | some x => (rest s0 s vs).set v x
    | none => rest s0 s vs
def isOwn : Option Sl → Bool
  | some (.own _) => true
  | _ => false
noncomputable def loop (it : It) (g : G) (vs : List Nat) (tt : M Bool) (te : M D) : List D → List D → Z → Option (List D × Z)
  | [], acc, z => if it.ok z = true then some (acc, z) else none
  | d :: ds, acc, z => if it.ok z = true then match g.run d z with
    | none => none
    | some z1 => match tt z1 with
      | none => none
      | some (false, z2) => loop it g vs tt te ds acc ⟨wipe z2.s vs, z2.h⟩
      | some (true, z2) => match te z2 with
        | none => none
        | some (x, z3) => if isPure x = true then loop it g vs tt te ds (acc ++ [x]) ⟨wipe z3.s vs, z3.h⟩ else none
    else none
noncomputable def comp (mi : M It) (g : G) (vs : List Nat) (tt : M Bool) (te : M D) : M (List D) := bnd mi fun it z =>
  if it.items.length ≤ szl ∧ (vs.all fun v => !isOwn z.s[v]?) = true then match loop it g vs tt te it.items [] ⟨wipe z.s vs, z.h⟩ with
    | none => none
    | some (acc, z1) => some (acc, ⟨rest z.s z1.s vs, z1.h⟩)
  else none
end N
inductive Fl where
  | nx | bk | ct | rt (d : D)
abbrev C := Z → Option (Fl × Z)
namespace C
def skip : C := fun z => some (.nx, z)
def seq (a b : C) : C := fun z => match a z with
  | some (.nx, z1) => b z1
  | r => r
def set (i : Nat) (e : M D) : C := bnd e fun d z => if isPure d = true then some (.nx, ⟨z.s.set i (.val d), z.h⟩) else none
/-- target = e -/
def asg (g : G) (e : M D) : C := bnd e fun d z => if isPure d = true then match g.run d z with
    | some z1 => some (.nx, z1)
    | none => none
  else none
/-- the slot owns the new list -/
def own (i : Nat) (e : M (List D)) : C := bnd e fun ds z => if i < z.s.length then some (.nx, ⟨z.s.set i (.own (.lst ds)), z.h⟩) else none
/-- the slot's list is not changed any more -/
def frz (i : Nat) : C := fun z => match z.s[i]? with
  | some (.own (.lst ds)) => some (.nx, ⟨z.s.set i (.val (.lst ds)), z.h⟩)
  | _ => none
def drop (e : M D) : C := bnd e fun _ z => some (.nx, z)
def ret (e : M D) : C := bnd e fun d z => match d with
  | .own i => match z.s[i]? with
    | some (.own (.lst ds)) => some (.rt (.lst ds), ⟨z.s.set i .no, z.h⟩)
    | _ => none
  | _ => some (.rt d, z)
def ite (t : M Bool) (a b : C) : C := bnd t fun k => if k = true then a else b
def brk : C := fun z => some (.bk, z)
def cnt : C := fun z => some (.ct, z)
/-- a[i] = e, a list that may change -/
def setIx (a i e : M D) : C := bnd e fun d => bnd a fun x => bnd i fun y z => if isPure d = true then match x, y with
    | .own k, .int j => match z.s[k]? with
      | some (.own (.lst ds)) => match U.setAt ds j d with
        | some ds' => some (.nx, ⟨z.s.set k (.own (.lst ds')), z.h⟩)
        | none => none
      | _ => none
    | .ref n, .int j => match z.h[n]? with
      | some (.lst ds) => match U.setAt ds j d with
        | some ds' => some (.nx, ⟨z.s, z.h.set n (.lst ds')⟩)
        | none => none
      | _ => none
    | _, _ => none
  else none
/-- x op= e -/
def aug (i : Nat) (f : D → D → Z → Option D) (e : M D) : C := fun z => match z.s[i]? with
  | some (.val x) => bnd e (fun y z => match f x y z with
    | some d => if isPure d = true then some (.nx, ⟨z.s.set i (.val d), z.h⟩) else none
    | none => none) z
  | _ => none
noncomputable def loop (it : It) (g : G) (b : C) : List D → C
  | [] => fun z => if it.ok z = true then some (.nx, z) else none
  | d :: ds => fun z => if it.ok z = true then match g.run d z with
    | none => none
    | some z1 => match b z1 with
      | none => none
      | some (.nx, z2) => loop it g b ds z2
      | some (.ct, z2) => loop it g b ds z2
      | some (.bk, z2) => some (.nx, z2)
      | some (.rt d, z2) => some (.rt d, z2)
    else none
noncomputable def for_ (mi : M It) (g : G) (b : C) : C := bnd mi fun it => loop it g b it.items
def whl (t : M Bool) (b : C) : C := fun z => match t z with
  | none => none
  | some (false, z1) => some (.nx, z1)
  | some (true, z1) => match b z1 with
    | none => none
    | some (.nx, z2) => whl t b z2
    | some (.ct, z2) => whl t b z2
    | some (.bk, z2) => some (.nx, z2)
    | some (.rt d, z2) => some (.rt d, z2)
partial_fixpoint
end C
/-- a def by its body: n slots, k parameters -/
def fn (n k : Nat) (b : C) : Fn := fun ds h => if ds.length = k then match b ⟨slots n ds, h⟩ with
    | some (.rt d, z) => some (d, z.h)
    | some (.nx, z) => some (.non, z.h)
    | _ => none
  else none
end Mi
set_option Elab.async false
set_option linter.all false
set_option maxRecDepth 100000
namespace Mi
open PySem PySem.Spec PyProof.Rows L2
abbrev RelT (α β : Type) := Bs → Hp → List Addr → (Nat → Option Addr) → Hp → α → β → Prop
/-- from the state z the meaning m goes on as Q wants -/
def Go (K : Kx) {α β : Type} (R : RelT α β) (B : Bs) (F : Hp) (rho : List Addr) (om : Nat → Option Addr) (m : M α) (z : Z) (σ : L2.St) (H : Hp) (Q : β → Hp → Prop) : Prop :=
  Rl K B F rho om z σ H ∧ ∃ x z', m z = some (x, z') ∧ ∀ F' rho' H' y, Same F F' → rho <+: rho' → Rl K B F' rho' om z' σ H' → R B F' rho' om H' x y → Q y H'
def Tx (K : Kx) {α β : Type} (R : RelT α β) (m : M α) : L2.St → Hp → (β → Hp → Prop) → Prop := fun σ H Q => ∃ B F rho om z, Go K R B F rho om m z σ H Q
abbrev rV (K : Kx) : RelT D V := fun _ F rho om _ d v => Rv K F rho om d v
abbrev rB : RelT Bool Bool := fun _ _ _ _ _ a b => b = a
abbrev rA (K : Kx) : RelT (List D) (List V) := fun _ F rho _ _ ds vs => Rps K F rho ds vs
abbrev rF (K : Kx) : RelT (List D) V := fun B F rho om H ds v => ∃ p xs, v = .ref p ∧ H p = some (.lst xs) ∧ Fresh K B F rho om H p ∧ Rps K F rho ds xs
abbrev rO : RelT (Option Int) (Option Int) := fun _ _ _ _ _ a b => b = a
abbrev Te (K : Kx) (m : M D) : TE := Tx K (rV K) m
abbrev Tt (K : Kx) (m : M Bool) : TT := Tx K rB m
abbrev Ta (K : Kx) (m : M (List D)) : TA := Tx K (rA K) m
abbrev Tf (K : Kx) (m : M (List D)) : TE := Tx K (rF K) m
abbrev To (K : Kx) (m : M (Option Int)) : TO := Tx K rO m
theorem bnd_some {α β : Type} {a : M α} {f : α → M β} {z z' : Z} {y : β} (h : bnd a f z = some (y, z')) : ∃ x z1, a z = some (x, z1) ∧ f x z1 = some (y, z') := by
  unfold bnd at h
  split at h
  · cases h
  · exact ⟨_, _, by assumption, h⟩
section
variable {K : Kx} {α β γ δ : Type} {R : RelT α β} {R' : RelT γ δ} {B : Bs} {F : Hp} {rho : List Addr} {om : Nat → Option Addr} {z : Z} {σ : L2.St} {H : Hp}
theorem Go.imp {m : M α} {Q Q' : β → Hp → Prop} (h : Go K R B F rho om m z σ H Q) (i : ∀ F' rho' H' x z' y, m z = some (x, z') → Same F F' → rho <+: rho' → Rl K B F' rho' om z' σ H' → R B F' rho' om H' x y → Q y H' → Q' y H') : Go K R B F rho om m z σ H Q' := by
  obtain ⟨r, x, z', e, k⟩ := h
  exact ⟨r, x, z', e, fun F' rho' H' y s p r' q => i F' rho' H' x z' y e s p r' q (k F' rho' H' y s p r' q)⟩
/-- one after another -/
theorem Go.bnd {a : M α} {f : α → M γ} {Q : δ → Hp → Prop} (h : Go K R' B F rho om (bnd a f) z σ H Q) :
    Go K R B F rho om a z σ H fun y H1 => ∃ F1 rho1 z1 x, a z = some (x, z1) ∧ Same F F1 ∧ rho <+: rho1 ∧ R B F1 rho1 om H1 x y ∧ Go K R' B F1 rho1 om (f x) z1 σ H1 Q := by
  obtain ⟨r, x, z', e, k⟩ := h
  obtain ⟨y, z1, e1, e2⟩ := bnd_some e
  exact ⟨r, y, z1, e1, fun F1 rho1 H1 v s1 p1 r1 q1 => ⟨F1, rho1, z1, y, e1, s1, p1, q1, r1, x, z', e2, fun F2 rho2 H2 w s2 p2 r2 q2 => k F2 rho2 H2 w (s1.trans s2) (p1.trans p2) r2 q2⟩⟩
theorem Go.ret {x : α} {Q : β → Hp → Prop} (h : Go K R B F rho om (ret x) z σ H Q) : ∀ y, R B F rho om H x y → Q y H := by
  obtain ⟨r, x', z', e, k⟩ := h
  unfold Mi.ret at e
  cases e
  exact fun y q => k F rho H y (Same.refl F) (List.prefix_refl _) r q
theorem Go.tx {m : M α} {Q : β → Hp → Prop} (h : Go K R B F rho om m z σ H Q) : Tx K R m σ H Q := ⟨B, F, rho, om, z, h⟩
/-- the end of an evaluation that changes nothing more -/
theorem Go.fin {m : M α} {Q : β → Hp → Prop} {x : α} (h : Go K R B F rho om m z σ H Q) (e : m z = some (x, z)) : ∀ y, R B F rho om H x y → Q y H := by
  obtain ⟨r, x', z', e', k⟩ := h
  rw [e] at e'
  cases e'
  exact fun y q => k F rho H y (Same.refl F) (List.prefix_refl _) r q
end
section
variable {K : Kx} {B : Bs} {F : Hp} {rho : List Addr} {om : Nat → Option Addr} {z : Z} {σ : L2.St} {H : Hp}
/-- a list or tuple, read -/
theorem cont_ok (R : Rl K B F rho om z σ H) {d : D} {v : V} {t : Bool} {ds : List D} (r : Rv K F rho om d v) (e : cont d z = some (t, ds)) :
    ∃ a xs, v = .ref a ∧ Rps K F rho ds xs ∧ ((t = false ∧ SqL K H a xs) ∨ (t = true ∧ SqT K H a xs)) := by
  cases r with
  | pure r =>
    cases r with
    | non => cases e
    | bl b => cases e
    | int i => cases e
    | str x => cases e
    | tup h q =>
      cases e
      exact ⟨_, _, rfl, q, .inr ⟨rfl, SqT.of (R.rh.fro _ _ h)⟩⟩
    | kt h q =>
      cases e
      exact ⟨_, _, rfl, q, .inr ⟨rfl, Same.sqt R.rh.fro h⟩⟩
    | lst h q =>
      cases e
      exact ⟨_, _, rfl, q, .inl ⟨rfl, SqL.of (R.rh.fro _ _ h)⟩⟩
    | scr h q =>
      cases e
      exact ⟨_, _, rfl, q, .inl ⟨rfl, R.rh.fro.seq h⟩⟩
    | @ref n a h =>
      have e : (match z.h[n]? with | some (.lst xs) => some (false, xs) | _ => none) = some (t, ds) := e
      split at e
      · rename_i xs hx
        cases e
        obtain ⟨ys, h1, h2⟩ := R.rh.obs n _ a hx h
        exact ⟨a, ys, rfl, h2, .inl ⟨rfl, SqL.of h1⟩⟩
      · cases e
    | dk => cases e
    | dt => cases e
    | ins => cases e
  | @own i a h =>
    have e : (match z.s[i]? with | some (.own (.lst xs)) => some (false, xs) | _ => none) = some (t, ds) := e
    split at e
    · rename_i xs hx
      cases e
      obtain ⟨a', h1, _, h2⟩ := R.sl i _ hx
      rw [h] at h1
      cases h1
      obtain ⟨ys, h3, h4⟩ := h2
      exact ⟨a, ys, rfl, h4, .inl ⟨rfl, SqL.of h3⟩⟩
    · cases e
theorem Rv.of_pure {d : D} {v : V} (r : Rv K F rho om d v) (h : isPure d = true) : Rp K F rho d v := by
  cases r with
  | pure r => exact r
  | own _ => cases h
end
section
variable {X : Cx} {Tb : Tbs}
theorem pe_imp {e : Expr} {t t' : TE} (h : PE X e t) (i : ∀ σ H Q, t' σ H Q → t σ H Q) : PE X e t' := ⟨fun pins s σ H Q I hw => h.run pins s σ H Q I (i σ H Q hw)⟩
theorem pt_imp {e : Expr} {t t' : TT} (h : PT X e t) (i : ∀ σ H Q, t' σ H Q → t σ H Q) : PT X e t' := ⟨fun pins s σ H Q I hw => h.run pins s σ H Q I (i σ H Q hw)⟩
theorem pw_imp {e : Expr} {t t' : TT} (h : PW X e t) (i : ∀ σ H Q, t' σ H Q → t σ H Q) : PW X e t' := ⟨fun wh pins s σ H Q I hw => h.run wh pins s σ H Q I (i σ H Q hw)⟩
theorem pa_imp {es : List Expr} {t t' : TA} (h : PA X es t) (i : ∀ σ H Q, t' σ H Q → t σ H Q) : PA X es t' := ⟨fun pos pins s σ H Q I hw => h.run pos pins s σ H Q I (i σ H Q hw)⟩
theorem ps_imp {st : Stmt} {t t' : TS} (h : PS X st t) (i : ∀ D σ H, t' D σ H → t D σ H) : PS X st t' := ⟨fun pins s σ H D I hw => h.run pins s σ H D I (i D σ H hw)⟩
theorem pss_imp {st : List Stmt} {t t' : TS} (h : PSs X st t) (i : ∀ D σ H, t' D σ H → t D σ H) : PSs X st t' := ⟨fun pins s σ H D I hw => h.run pins s σ H D I (i D σ H hw)⟩
theorem pg_imp {e : Expr} {t t' : TG} (h : PG X e t) (i : ∀ v σ H Q, t' v σ H Q → t v σ H Q) : PG X e t' := ⟨fun pins s σ H v u Q I r hw => h.run pins s σ H v u Q I r (i v σ H Q hw)⟩
theorem pgs_imp {es : List Expr} {t t' : TGs} (h : PGs X es t) (i : ∀ vs σ H Q, t' vs σ H Q → t vs σ H Q) : PGs X es t' := ⟨fun pins s σ H vs us Q I r hw => h.run pins s σ H vs us Q I r (i vs σ H Q hw)⟩
theorem pi_imp {tg e : Expr} {t t' : TI} (h : PI X tg e t) (i : ∀ σ H R, t' σ H R → t σ H R) : PI X tg e t' := ⟨fun pins s σ H R I hw => h.run pins s σ H R I (i σ H R hw)⟩
theorem pts_imp {es : List Expr} {t t' : TT} (h : PTs X es t) (i : ∀ σ H Q, t' σ H Q → t σ H Q) : PTs X es t' := ⟨fun pins s σ H Q I hw => h.run pins s σ H Q I (i σ H Q hw)⟩
theorem po_imp {e : Option Expr} {t t' : TO} (h : PO X e t) (i : ∀ σ H Q, t' σ H Q → t σ H Q) : PO X e t' := ⟨fun pins s σ H Q I hw => h.run pins s σ H Q I (i σ H Q hw)⟩
theorem me_var (i : Nat) {x : Str} {pos : Pos} (hN : X.N[i]? = some x := by rfl) (hv : Vis X.env.scope x := by first | exact Or.inl rfl | exact Or.inr (Or.inl rfl) | exact Or.inr (Or.inr rfl)) (hd : (x == ("__debug__" : Str)) = false := by decide)
    (hcd : (x == ("__classdict__" : Str)) = false := by decide) : PE X (.Name x pos) (Te (kx X Tb) (E.var i)) := by
  refine pe_imp (pe_var hN hv hd hcd) fun σ H Q ⟨B, F, rho, om, z, R, d, z', e, k⟩ => ?_
  unfold E.var at e
  split at e
  · rename_i d' hd'
    cases e
    obtain ⟨v, h1, h2⟩ := R.sl i _ hd'
    exact ⟨v, h1, k F rho H v (Same.refl F) (List.prefix_refl _) R (.pure h2)⟩
  · rename_i d' hd'
    cases e
    obtain ⟨a, h1, h2, h3⟩ := R.sl i _ hd'
    exact ⟨_, h2, k F rho H _ (Same.refl F) (List.prefix_refl _) R (.own h1)⟩
  · cases e
/-- a constant's reading -/
theorem tc_ok {K : Kx} {d : D} {v : V} (h : ∀ F rho, Rp K F rho d v) : ∀ σ H Q, Te K (E.c d) σ H Q → tC v σ H Q := fun σ H Q ⟨B, F, rho, om, z, g⟩ => g.ret v (.pure (h F rho))
theorem me_int {i j pos} : PE X (.Constant (.int i) j pos) (Te (kx X Tb) (E.c (.int i))) := pe_imp pe_int (tc_ok fun _ _ => .int i)
theorem me_bl {b j pos} : PE X (.Constant (.bool b) j pos) (Te (kx X Tb) (E.c (.bl b))) := pe_imp pe_bl (tc_ok fun _ _ => .bl b)
theorem me_non {j pos} : PE X (.Constant .none j pos) (Te (kx X Tb) (E.c .non)) := pe_imp pe_non (tc_ok fun _ _ => .non)
theorem ma_nil : PA X [] (Ta (kx X Tb) (E.args [])) := pa_imp pa_nil fun σ H Q ⟨B, F, rho, om, z, g⟩ => g.ret [] .nil
theorem ma_cons {e : Expr} {es : List Expr} {m : M D} {ms : List (M D)} (ha : PE X e (Te (kx X Tb) m)) (hr : PA X es (Ta (kx X Tb) (E.args ms))) (hs : starEach (e :: es) X.env = (false, eval e X.env) :: starEach es X.env := by rfl) :
    PA X (e :: es) (Ta (kx X Tb) (E.args (m :: ms))) := by
  refine pa_imp (pa_cons ha hr hs) fun σ H Q ⟨B, F, rho, om, z, g⟩ => ?_
  refine (g.bnd.imp fun F1 rho1 H1 x z1 y _ _ _ _ _ ⟨F2, rho2, z2, x2, eg1, s1, p1, r1, g1⟩ => ?_).tx (R := rV (kx X Tb))
  refine (g1.bnd.imp fun F3 rho3 H3 xs z3 ys _ _ _ _ _ ⟨F4, rho4, z4, xs4, eg2, s2, p2, r2, g2⟩ => ?_).tx (R := rA (kx X Tb))
  by_cases hp : isPure x2 = true
  · rw [if_pos hp] at g2
    exact g2.ret _ (.cons ((r1.mono s2 p2).of_pure hp) r2)
  · rw [if_neg hp] at g2
    obtain ⟨_, _, _, e, _⟩ := g2
    cases e
end
end Mi
set_option Elab.async false
set_option linter.all false
set_option maxRecDepth 100000
namespace Mi
open PySem PySem.Spec PyProof.Rows L2
section
variable {X : Cx} {Tb : Tbs}
/-- a two-place operation of values and its rule -/
def OpV (K : Kx) (r : R2) (f : D → D → Z → Option D) : Prop :=
  ∀ {B : Bs} {F : Hp} {rho : List Addr} {om : Nat → Option Addr} {z : Z} {σ : L2.St} {H : Hp} {x y : D} {xv yv : V} {d : D}, Rl K B F rho om z σ H → Rv K F rho om x xv → Rv K F rho om y yv → f x y z = some d →
    ∀ Q : VK, (∀ F' H' v, Same F F' → Rl K B F' rho om z σ H' → Rv K F' rho om d v → Q v H') → r xv yv H Q
theorem op_go {K : Kx} {r : R2} {f : D → D → Z → Option D} (hv : OpV K r f) {ma mb : M D} : ∀ σ H Q, Te K (E.op f ma mb) σ H Q → tOp r (Te K ma) (Te K mb) σ H Q := by
  rintro σ H Q ⟨B, F, rho, om, z, g⟩
  refine (g.bnd.imp fun _ _ H1 _ _ xv _ _ _ _ _ ⟨F2, rho2, z2, x2, eg1, s1, p1, r1, g1⟩ => ?_).tx (R := rV K)
  refine (g1.bnd.imp fun _ _ H2 _ _ yv _ _ _ _ _ ⟨F3, rho3, z3, y3, eg2, s2, p2, r2, g2⟩ => ?_).tx (R := rV K)
  obtain ⟨R, d, z4, e, k⟩ := g2
  dsimp only at e
  split at e
  · cases e
  · rename_i d' hd
    cases e
    exact hv R (r1.mono s2 p2) r2 hd Q fun F' H' v s R' q => k F' rho3 H' v s (List.prefix_refl _) R' q
def UnV (K : Kx) (r : V → Hp → VK → Prop) (f : D → Z → Option D) : Prop :=
  ∀ {B : Bs} {F : Hp} {rho : List Addr} {om : Nat → Option Addr} {z : Z} {σ : L2.St} {H : Hp} {x : D} {xv : V} {d : D}, Rl K B F rho om z σ H → Rv K F rho om x xv → f x z = some d →
    ∀ Q : VK, (∀ F' H' v, Same F F' → Rl K B F' rho om z σ H' → Rv K F' rho om d v → Q v H') → r xv H Q
theorem un_go {K : Kx} {r : V → Hp → VK → Prop} {f : D → Z → Option D} (hv : UnV K r f) {ma : M D} : ∀ σ H Q, Te K (E.un f ma) σ H Q → tUn r (Te K ma) σ H Q := by
  rintro σ H Q ⟨B, F, rho, om, z, g⟩
  refine (g.bnd.imp fun _ _ H1 _ _ xv _ _ _ _ _ ⟨F2, rho2, z2, x2, eg1, s1, p1, r1, g1⟩ => ?_).tx (R := rV K)
  obtain ⟨R, d, z4, e, k⟩ := g1
  dsimp only at e
  split at e
  · cases e
  · rename_i d' hd
    cases e
    exact hv R r1 hd Q fun F' H' v s R' q => k F' rho2 H' v s (List.prefix_refl _) R' q
/-- a rule of the model and its meaning, together -/
structure OpM (X : Cx) (g : Value → Value → Sem Value) (f : D → D → Z → Option D) : Prop where
  rl : ∃ r, OpR X g r ∧ ∀ Tb, OpV (kx X Tb) r f
theorem me_op {op : Operator} {f : D → D → Z → Option D} {a b : Expr} {pos : Pos} {ma mb : M D} (ho : OpM X (binaryOp op) f) (ha : PE X a (Te (kx X Tb) ma)) (hb : PE X b (Te (kx X Tb) mb)) : PE X (.BinOp a op b pos) (Te (kx X Tb) (E.op f ma mb)) := by
  obtain ⟨r, h1, h2⟩ := ho.rl
  exact pe_imp (pe_op h1 ha hb) (op_go (h2 _))
theorem me_cmp {op : CmpOp} {f : D → D → Z → Option D} {a b : Expr} {pos : Pos} {ma mb : M D} (ho : OpM X (compareOp op) f) (ha : PE X a (Te (kx X Tb) ma)) (hb : PE X b (Te (kx X Tb) mb)) (hm : behindInMarks op b = false) : PE X (.Compare a [op] [b] pos) (Te (kx X Tb) (E.op f ma mb)) := by
  obtain ⟨r, h1, h2⟩ := ho.rl
  exact pe_imp (pe_cmpR h1 ha hb hm) (op_go (h2 _))
/-- the reading of a test by an expression that gives True or False -/
theorem tv_go {K : Kx} {t : TE} {m : M D} (h : ∀ σ H Q, Te K m σ H Q → t σ H Q) : ∀ σ H Q, Tt K (T.val m) σ H Q → tTest t σ H Q := by
  rintro σ H Q ⟨B, F, rho, om, z, g⟩
  refine h σ H _ ((g.bnd.imp fun _ _ H1 _ _ xv _ _ _ _ _ ⟨F2, rho2, z2, x2, eg1, s1, p1, r1, g1⟩ => ?_).tx (R := rV K))
  cases r1 with
  | own _ => obtain ⟨_, _, _, e, _⟩ := g1; cases e
  | pure r1 =>
    cases r1 with
    | bl b => exact ⟨b, rfl, g1.ret b rfl⟩
    | _ => obtain ⟨_, _, _, e, _⟩ := g1; cases e
theorem mt_cmp {op : CmpOp} {f : D → D → Z → Option D} {a b : Expr} {pos : Pos} {ma mb : M D} (ho : OpM X (compareOp op) f) (ha : PE X a (Te (kx X Tb) ma)) (hb : PE X b (Te (kx X Tb) mb)) (hm : behindInMarks op b = false) : PT X (.Compare a [op] [b] pos) (Tt (kx X Tb) (T.val (E.op f ma mb))) := by
  obtain ⟨r, h1, h2⟩ := ho.rl
  exact pt_imp (pt_cmpR h1 ha hb hm) (tv_go (op_go (h2 _)))
/-- is None, is not None -/
theorem isN_go {K : Kx} {ma : M D} : ∀ σ H Q, Te K (E.isN ma) σ H Q → tIsN (Te K ma) σ H Q := by
  rintro σ H Q ⟨B, F, rho, om, z, g⟩
  refine (g.bnd.imp fun _ _ H1 _ _ xv _ _ _ _ _ ⟨F2, rho2, z2, x2, eg1, s1, p1, r1, g1⟩ => ?_).tx (R := rV K)
  cases r1 with
  | own _ => exact g1.ret _ (.pure (.bl false))
  | pure r1 =>
    cases r1 with
    | non => exact g1.ret _ (.pure (.bl true))
    | _ => exact g1.ret _ (.pure (.bl false))
theorem notN_go {K : Kx} {ma : M D} : ∀ σ H Q, Te K (E.notN ma) σ H Q → tNotN (Te K ma) σ H Q := by
  rintro σ H Q ⟨B, F, rho, om, z, g⟩
  refine (g.bnd.imp fun _ _ H1 _ _ xv _ _ _ _ _ ⟨F2, rho2, z2, x2, eg1, s1, p1, r1, g1⟩ => ?_).tx (R := rV K)
  cases r1 with
  | own _ => exact g1.ret _ (.pure (.bl true))
  | pure r1 =>
    cases r1 with
    | non => exact g1.ret _ (.pure (.bl false))
    | _ => exact g1.ret _ (.pure (.bl true))
theorem mt_isN {a : Expr} {ma : M D} {pos pos' : Pos} {j} (ha : PE X a (Te (kx X Tb) ma)) : PT X (.Compare a [.Is] [.Constant .none j pos'] pos) (Tt (kx X Tb) (T.val (E.isN ma))) := pt_imp (pt_cmp (pc_isN ha) (by rfl)) (tv_go isN_go)
theorem mt_notN {a : Expr} {ma : M D} {pos pos' : Pos} {j} (ha : PE X a (Te (kx X Tb) ma)) : PT X (.Compare a [.IsNot] [.Constant .none j pos'] pos) (Tt (kx X Tb) (T.val (E.notN ma))) := pt_imp (pt_cmp (pc_notN ha) (by rfl)) (tv_go notN_go)
theorem two_ints {K : Kx} {F : Hp} {rho : List Addr} {om : Nat → Option Addr} {z : Z} {x y : D} {xv yv : V} {d : D} {g : Int → Int → Option D} {f : D → D → Z → Option D}
    (hf : ∀ x y z, f x y z = match x, y with | .int i, .int j => g i j | _, _ => none) (rx : Rv K F rho om x xv) (ry : Rv K F rho om y yv) (e : f x y z = some d) : ∃ i j, x = .int i ∧ y = .int j ∧ xv = .int i ∧ yv = .int j ∧ g i j = some d := by
  rw [hf] at e
  cases x <;> try (cases e; done)
  cases y <;> try (cases e; done)
  cases rx with
  | pure rx =>
    cases rx
    cases ry with
    | pure ry =>
      cases ry
      exact ⟨_, _, rfl, rfl, rfl, rfl, e⟩
theorem opI0_ok {f : D → D → Z → Option D} {g : Int → Int → V} {g' : Int → Int → D} (hg : ∀ K F rho i j, Rp K F rho (g' i j) (g i j)) (hf : ∀ x y z, f x y z = match x, y with | .int i, .int j => some (g' i j) | _, _ => none) {K : Kx} : OpV K (rI0 g) f := by
  intro B F rho om z σ H x y xv yv d R rx ry e Q k
  obtain ⟨i, j, rfl, rfl, rfl, rfl, e⟩ := two_ints (g := fun i j => some (g' i j)) hf rx ry e
  cases e
  exact ⟨i, j, rfl, rfl, k F H _ (Same.refl F) R (.pure (hg _ _ _ _ _))⟩
theorem opI_ok {f : D → D → Z → Option D} {C : Int → Int → Prop} {g : Int → Int → Int} {h : Int → Int → Option D} (hh : ∀ i j d, h i j = some d → C i j ∧ d = .int (g i j)) (hf : ∀ x y z, f x y z = match x, y with | .int i, .int j => h i j | _, _ => none) {K : Kx} : OpV K (rI C fun i j => .int (g i j)) f := by
  intro B F rho om z σ H x y xv yv d R rx ry e Q k
  obtain ⟨i, j, rfl, rfl, rfl, rfl, e⟩ := two_ints (g := h) hf rx ry e
  obtain ⟨c, rfl⟩ := hh i j d e
  exact ⟨i, j, rfl, rfl, c, k F H _ (Same.refl F) R (.pure (.int _))⟩
theorem o_add : OpM X (binaryOp .Add) O.add := ⟨_, op_add, fun _ => opI0_ok (g' := fun i j => .int (i + j)) (fun _ _ _ _ _ => .int _) fun x y z => by cases x <;> cases y <;> rfl⟩
theorem o_sub : OpM X (binaryOp .Sub) O.sub := ⟨_, op_sub, fun _ => opI0_ok (g' := fun i j => .int (i - j)) (fun _ _ _ _ _ => .int _) fun x y z => by cases x <;> cases y <;> rfl⟩
theorem o_lt : OpM X (compareOp .Lt) O.lt := ⟨_, op_lt, fun _ => opI0_ok (g' := fun i j => .bl (decide (i < j))) (fun _ _ _ _ _ => .bl _) fun x y z => by cases x <;> cases y <;> rfl⟩
theorem o_le : OpM X (compareOp .LtE) O.le := ⟨_, op_le, fun _ => opI0_ok (g' := fun i j => .bl (decide (i ≤ j))) (fun _ _ _ _ _ => .bl _) fun x y z => by cases x <;> cases y <;> rfl⟩
theorem o_gt : OpM X (compareOp .Gt) O.gt := ⟨_, op_gt, fun _ => opI0_ok (g' := fun i j => .bl (decide (j < i))) (fun _ _ _ _ _ => .bl _) fun x y z => by cases x <;> cases y <;> rfl⟩
theorem o_ge : OpM X (compareOp .GtE) O.ge := ⟨_, op_ge, fun _ => opI0_ok (g' := fun i j => .bl (decide (j ≤ i))) (fun _ _ _ _ _ => .bl _) fun x y z => by cases x <;> cases y <;> rfl⟩
theorem bigN_pos : 0 < bigN := by decide
open Classical in
theorem o_mul : OpM X (binaryOp .Mult) O.mul := by
  refine ⟨_, op_mulW, fun _ => opI_ok (h := fun i j => if smI i ∧ smI j then some (.int (i * j)) else none) (fun i j d e => ?_) fun x y z => by cases x <;> cases y <;> rfl⟩
  split at e
  · rename_i c
    cases e
    exact ⟨wide_mul c.1 c.2 bigN_pos bigN_pos (by decide), rfl⟩
  · cases e
open Classical in
theorem o_div : OpM X (binaryOp .FloorDiv) O.div := by
  refine ⟨_, op_fdivW, fun _ => opI_ok (h := fun i j => if 0 < j ∧ smI j then some (.int (i / j)) else none) (fun i j d e => ?_) fun x y z => by cases x <;> cases y <;> rfl⟩
  split at e
  · rename_i c
    cases e
    exact ⟨wide_div c.1 c.2 bigN_pos (by decide), rfl⟩
  · cases e
theorem o_mod : OpM X (binaryOp .Mod) O.mod := by
  refine ⟨_, op_mod, fun _ => opI_ok (h := fun i j => if 0 < j then some (.int (i % j)) else none) (fun i j d e => ?_) fun x y z => by cases x <;> cases y <;> rfl⟩
  split at e
  · rename_i c
    cases e
    exact ⟨c, rfl⟩
  · cases e
theorem me_neg {a : Expr} {pos : Pos} {ma : M D} (ha : PE X a (Te (kx X Tb) ma)) : PE X (.UnaryOp .USub a pos) (Te (kx X Tb) (E.un O.neg ma)) := by
  refine pe_imp (pe_un un_neg ha) (un_go ?_)
  intro B F rho om z σ H x xv d R rx e Q k
  unfold O.neg at e
  split at e
  · cases e
    cases rx with
    | pure rx =>
      cases rx
      exact ⟨_, rfl, k F H _ (Same.refl F) R (.pure (.int _))⟩
  · cases e
theorem args_len : ∀ {as : List (M D)} {z z' : Z} {xs : List D}, E.args as z = some (xs, z') → xs.length = as.length
  | [], z, z', xs, h => by
    cases h
    rfl
  | a :: as, z, z', xs, h => by
    obtain ⟨x, z1, _, h2⟩ := bnd_some h
    obtain ⟨ys, z2, h3, h4⟩ := bnd_some h2
    split at h4
    · cases h4
      rw [List.length_cons, List.length_cons, args_len h3]
    · cases h4
theorem me_tup {es : List Expr} {k : Nat} {pos : Pos} {ms : List (M D)} (h : PA X es (Ta (kx X Tb) (E.args ms))) (hl : ms.length ≤ 1000 := by decide) : PE X (.Tuple es k pos) (Te (kx X Tb) (E.tup ms)) := by
  refine pe_imp (pe_tup h) fun σ H Q ⟨B, F, rho, om, z, g⟩ => ?_
  refine (g.bnd.imp fun _ _ H1 _ _ vs em _ _ _ _ ⟨F2, rho2, z2, xs, eg1, s1, p1, r1, g1⟩ => ?_).tx (R := rA (kx X Tb))
  obtain ⟨R, d, z4, e, k⟩ := g1
  cases e
  refine ⟨?_, fun p hp => ?_⟩
  · have hv := r1.length
    have hx := args_len eg1
    exact Nat.le_trans (by omega) (show 1000 ≤ sizeLine by decide)
  · obtain ⟨F3, R3, s3, q3⟩ := R.alloc (o := .tup vs) hp
    exact k F3 rho2 _ _ s3 (List.prefix_refl _) R3 (.pure (.tup q3 (r1.mono s3 (List.prefix_refl _))))
end
end Mi
set_option Elab.async false
set_option linter.all false
set_option maxRecDepth 100000
namespace Mi
open PySem PySem.Spec PyProof.Rows L2
section
variable {X : Cx} {Tb : Tbs}
theorem mf_disp {es : List Expr} {pos : Pos} {ms : List (M D)} (h : PA X es (Ta (kx X Tb) (E.args ms))) (hl : ms.length ≤ 1000 := by decide) : PE X (.List es pos) (Tf (kx X Tb) (N.disp ms)) := by
  refine pe_imp (pe_lst h) fun σ H Q ⟨B, F, rho, om, z, R, xs, z', e, k⟩ => ?_
  refine ⟨B, F, rho, om, z, R, xs, z', e, fun F1 rho1 H1 vs s1 p1 R1 r1 => ⟨?_, fun p hp => ?_⟩⟩
  · have hv := r1.length
    have hx := args_len e
    exact Nat.le_trans (by omega) (show 1000 ≤ sizeLine by decide)
  · obtain ⟨R2, f2⟩ := R1.new (o := .lst vs) hp
    exact k F1 rho1 _ _ s1 p1 R2 ⟨p, vs, rfl, upd_same, f2, r1⟩
/-- a new list laid down -/
theorem me_frz {e : Expr} {m : M (List D)} (h : PE X e (Tf (kx X Tb) m)) : PE X e (Te (kx X Tb) (E.frz m)) := by
  refine pe_imp h fun σ H Q ⟨B, F, rho, om, z, g⟩ => ?_
  refine (g.bnd.imp fun _ _ H1 _ _ v _ _ _ _ _ ⟨F2, rho2, z2, xs, eg1, s1, p1, ⟨p, vs, hv, hp, f, r1⟩, g1⟩ => ?_).tx (R := rF (kx X Tb))
  subst hv
  obtain ⟨R, d, z4, e, k⟩ := g1
  cases e
  obtain ⟨R3, s3⟩ := R.lay f hp
  exact k _ rho2 _ _ s3 (List.prefix_refl _) R3 (.pure (.lst upd_same (r1.mono s3 (List.prefix_refl _))))
/-- a new list joins the shared heap -/
theorem me_shr {e : Expr} {m : M (List D)} (h : PE X e (Tf (kx X Tb) m)) : PE X e (Te (kx X Tb) (E.shr m)) := by
  refine pe_imp h fun σ H Q ⟨B, F, rho, om, z, g⟩ => ?_
  refine (g.bnd.imp fun _ _ H1 _ _ v _ _ _ _ _ ⟨F2, rho2, z2, xs, eg1, s1, p1, ⟨p, vs, hv, hp, f, r1⟩, g1⟩ => ?_).tx (R := rF (kx X Tb))
  subst hv
  obtain ⟨R, d, z4, e, k⟩ := g1
  cases e
  obtain ⟨R3, q3⟩ := R.share (d := .lst xs) f ⟨vs, hp, r1⟩
  exact k _ _ _ _ (Same.refl _) (List.prefix_append _ _) R3 (.pure (.ref q3))
theorem Rps.atI {K : Kx} {F : Hp} {rho : List Addr} {ds : List D} {vs : List V} {i : Int} {d : D} (r : Rps K F rho ds vs) (h : L2.atI ds i = some d) : ∃ v, L2.atI vs i = some v ∧ Rp K F rho d v := by
  unfold L2.atI at h ⊢
  rw [← r.length]
  cases q : ixN ds.length i with
  | none =>
    rw [q] at h
    cases h
  | some j =>
    rw [q] at h
    exact r.get h
theorem ix_ok {K : Kx} : OpV K (fun x y H Q => rIxL K x y H Q ∨ rIxT K x y H Q) O.ix := by
  intro B F rho om z σ H x y xv yv d R rx ry e Q k
  unfold O.ix at e
  split at e
  · rename_i t ds i hc
    obtain ⟨a, xs, rfl, q, h⟩ := cont_ok R rx hc
    cases ry with
    | pure ry =>
      cases ry
      obtain ⟨v, hv, rv⟩ := q.atI e
      have fin := k F H v (Same.refl F) R (.pure rv)
      rcases h with ⟨_, h⟩ | ⟨_, h⟩
      · exact .inl ⟨a, xs, i, v, rfl, rfl, h, hv, fin⟩
      · exact .inr ⟨a, xs, i, v, rfl, rfl, h, hv, fin⟩
  · cases e
theorem me_ix {a b : Expr} {pos : Pos} {ma mb : M D} (ha : PE X a (Te (kx X Tb) ma)) (hb : PE X b (Te (kx X Tb) mb)) (hs : PlainIx b := by exact fun _ _ => rfl) : PE X (.Subscript a b pos) (Te (kx X Tb) (E.op O.ix ma mb)) :=
  pe_imp (pe_ix (ix_list.or ix_tup) ha hb hs) (op_go ix_ok)
theorem call_go {K : Kx} {n : Nat} {mf : Fn} {ms : List (M D)} {es : List Expr} {XE : XK} (hn : ms.length = n) : ∀ σ H Q, Te K (E.call mf ms) σ H Q → tCall (spM n K mf) [] XE (Ta K (E.args ms)) σ H Q := by
  rintro σ H Q ⟨B, F, rho, om, z, g⟩
  refine (g.bnd.imp fun _ _ H1 _ _ vs _ _ _ _ _ ⟨F2, rho2, z2, xs, eg1, s1, p1, r1, g1⟩ => ?_).tx (R := rA K)
  obtain ⟨R, d, z4, e, k⟩ := g1
  dsimp only at e
  split at e
  · cases e
  · rename_i d' h' hd
    cases e
    rw [List.append_nil]
    have hx := args_len eg1
    refine ⟨by rw [← r1.length, hx, hn], F2, rho2, z2.h, xs, R.rh, r1, _, _, hd, fun F' rho' H' v e1 e2 r fr nf nr q => ?_⟩
    exact k F' rho' H' v e1 e2 (R.called e1 e2 r fr nf nr) (.pure q)
theorem me_call {k : Nat} {f : Addr} {fd : FuncData} {ps : List Str} {n : Nat} {mf : Fn} {x : Str} {p pos : Pos} {e : Expr} {es : List Expr} {ms : List (M D)} (G : FnOk X.prog X.w X.K X.mg X.base CX0 k f fd ps (spM n (kx X Tb) mf)) (hr : Room k X.A) (hg : Gl X x) (hm : X.mg x = some (.ref f))
    (hk : PySem.W.keepIn X.K (.ref f) = true) (hb : Binds X.K fd ps []) (ha : PA X (e :: es) (Ta (kx X Tb) (E.args ms))) (hn : ms.length = n := by rfl) (hdb : (x == ("__debug__" : Str)) = false := by decide) (he : starEach (e :: es) X.env = (false, eval e X.env) :: starEach es X.env := by rfl)
    (hpl : (backTo pos (starEach es X.env)).any (·.1) = false := by rfl) : PE X (.Call (.Name x p) (e :: es) [] pos) (Te (kx X Tb) (E.call mf ms)) :=
  pe_imp (pe_call G hr hg hm hk hb .nil pass0 ha hdb he hpl) (call_go (es := es) hn)
inductive Rvs (K : Kx) (F : Hp) (rho : List Addr) (om : Nat → Option Addr) : List D → List V → Prop
  | nil : Rvs K F rho om [] []
  | cons {d : D} {v : V} {ds : List D} {vs : List V} : Rv K F rho om d v → Rvs K F rho om ds vs → Rvs K F rho om (d :: ds) (v :: vs)
theorem Rps.rvs {K : Kx} {F : Hp} {rho : List Addr} {om : Nat → Option Addr} : ∀ {ds : List D} {vs : List V}, Rps K F rho ds vs → Rvs K F rho om ds vs
  | _, _, .nil => .nil
  | _, _, .cons h r => .cons (.pure h) (Rps.rvs r)
def CallV (K : Kx) (r : List V → Hp → VK → Prop) (f : List D → Z → Option D) : Prop :=
  ∀ {B : Bs} {F : Hp} {rho : List Addr} {om : Nat → Option Addr} {z : Z} {σ : L2.St} {H : Hp} {xs : List D} {vs : List V} {d : D}, Rl K B F rho om z σ H → Rvs K F rho om xs vs → f xs z = some d →
    ∀ Q : VK, (∀ F' H' v, Same F F' → Rl K B F' rho om z σ H' → Rv K F' rho om d v → Q v H') → r vs H Q
theorem blt1_go {K : Kx} {r : List V → Hp → VK → Prop} {f : List D → Z → Option D} (hv : CallV K r f) {m : M D} : ∀ σ H Q, Te K (E.blt f [m]) σ H Q → tCB r (tCons (Te K m) tNil) σ H Q := by
  rintro σ H Q ⟨B, F, rho, om, z, g⟩
  have g : Go K (rV K) B F rho om (bnd m fun x => fun z => match f [x] z with | none => none | some d => some (d, z)) z σ H Q := g
  refine (g.bnd.imp fun _ _ H1 _ _ v _ _ _ _ _ ⟨F2, rho2, z2, x, eg1, s1, p1, r1, g1⟩ => ?_).tx (R := rV K)
  obtain ⟨R, d, z4, e, k⟩ := g1
  dsimp only at e
  split at e
  · cases e
  · rename_i d' hd
    cases e
    exact hv R (.cons r1 .nil) hd Q fun F' H' v s R' q => k F' rho2 H' v s (List.prefix_refl _) R' q
theorem blt2_go {K : Kx} {r : List V → Hp → VK → Prop} {f : List D → Z → Option D} (hv : CallV K r f) {m m2 : M D} {ms : List (M D)} : ∀ σ H Q, Te K (E.blt f (m :: m2 :: ms)) σ H Q → tCB r (Ta K (E.args (m :: m2 :: ms))) σ H Q := by
  rintro σ H Q ⟨B, F, rho, om, z, g⟩
  have g : Go K (rV K) B F rho om (bnd (E.args (m :: m2 :: ms)) fun xs => fun z => match f xs z with | none => none | some d => some (d, z)) z σ H Q := g
  refine (g.bnd.imp fun _ _ H1 _ _ v _ _ _ _ _ ⟨F2, rho2, z2, x, eg1, s1, p1, r1, g1⟩ => ?_).tx (R := rA K)
  obtain ⟨R, d, z4, e, k⟩ := g1
  dsimp only at e
  split at e
  · cases e
  · rename_i d' hd
    cases e
    exact hv R r1.rvs hd Q fun F' H' v s R' q => k F' rho2 H' v s (List.prefix_refl _) R' q
structure CallM (X : Cx) (g : Value) (f : List D → Z → Option D) : Prop where
  rl : ∃ r, CallR X g r ∧ ∀ Tb, CallV (kx X Tb) r f
theorem me_blt1 {id : String} {f : List D → Z → Option D} {x : Str} {p pos : Pos} {e : Expr} {m : M D} (hc : CallM X (.builtin id) f) (hg : Gl X x) (hm : X.mg x = none) (hv : bootBuiltins x = some (.builtin id)) (ha : PE X e (Te (kx X Tb) m)) (hn : x ≠ "__name__" := by decide) (hdb : (x == ("__debug__" : Str)) = false := by decide)
    (he : starEach [e] X.env = (false, eval e X.env) :: starEach [] X.env := by rfl) (hpl : (backTo pos (starEach [] X.env)).any (·.1) = false := by rfl) : PE X (.Call (.Name x p) [e] [] pos) (Te (kx X Tb) (E.blt f [m])) := by
  obtain ⟨r, h1, h2⟩ := hc.rl
  exact pe_imp (pe_callB h1 hg hm hv (pa_cons ha pa_nil he) hn hdb he hpl) (blt1_go (h2 _))
theorem me_blt2 {id : String} {f : List D → Z → Option D} {x : Str} {p pos : Pos} {e e2 : Expr} {es : List Expr} {m m2 : M D} {ms : List (M D)} (hc : CallM X (.builtin id) f) (hg : Gl X x) (hm : X.mg x = none) (hv : bootBuiltins x = some (.builtin id)) (ha : PA X (e :: e2 :: es) (Ta (kx X Tb) (E.args (m :: m2 :: ms)))) (hn : x ≠ "__name__" := by decide) (hdb : (x == ("__debug__" : Str)) = false := by decide)
    (he : starEach (e :: e2 :: es) X.env = (false, eval e X.env) :: starEach (e2 :: es) X.env := by rfl) (hpl : (backTo pos (starEach (e2 :: es) X.env)).any (·.1) = false := by rfl) : PE X (.Call (.Name x p) (e :: e2 :: es) [] pos) (Te (kx X Tb) (E.blt f (m :: m2 :: ms))) := by
  obtain ⟨r, h1, h2⟩ := hc.rl
  exact pe_imp (pe_callB h1 hg hm hv ha hn hdb he hpl) (blt2_go (h2 _))
theorem me_ty1 {T : String} {f : List D → Z → Option D} {x : Str} {p pos : Pos} {e : Expr} {m : M D} (hc : CallM X (.type T) f) (hg : Gl X x) (hm : X.mg x = none) (hv : bootBuiltins x = some (.type T)) (ha : PE X e (Te (kx X Tb) m)) (hn : x ≠ "__name__" := by decide) (hdb : (x == ("__debug__" : Str)) = false := by decide)
    (he : starEach [e] X.env = (false, eval e X.env) :: starEach [] X.env := by rfl) (hpl : (backTo pos (starEach [] X.env)).any (·.1) = false := by rfl) : PE X (.Call (.Name x p) [e] [] pos) (Te (kx X Tb) (E.blt f [m])) := by
  obtain ⟨r, h1, h2⟩ := hc.rl
  exact pe_imp (pe_callTy h1 hg hm hv (pa_cons ha pa_nil he) hn hdb he hpl) (blt1_go (h2 _))
theorem rvs1 {K : Kx} {F : Hp} {rho : List Addr} {om : Nat → Option Addr} {x : D} {vs : List V} (r : Rvs K F rho om [x] vs) : ∃ v, vs = [v] ∧ Rv K F rho om x v := by
  cases r with
  | cons r t =>
    cases t
    exact ⟨_, rfl, r⟩
theorem rvs2 {K : Kx} {F : Hp} {rho : List Addr} {om : Nat → Option Addr} {x y : D} {vs : List V} (r : Rvs K F rho om [x, y] vs) : ∃ v w, vs = [v, w] ∧ Rv K F rho om x v ∧ Rv K F rho om y w := by
  cases r with
  | cons r t =>
    cases t with
    | cons r2 t =>
      cases t
      exact ⟨_, _, rfl, r, r2⟩
theorem rv_int {K : Kx} {F : Hp} {rho : List Addr} {om : Nat → Option Addr} {i : Int} {v : V} (r : Rv K F rho om (.int i) v) : v = .int i := by
  cases r with
  | pure r =>
    cases r
    rfl
theorem f_len : CallM X (.builtin "len") F.len := by
  refine ⟨_, call_len_seq, ?_⟩
  intro Tb B F rho om z σ H xs vs d R r e Q k
  unfold Mi.F.len at e
  split at e
  · obtain ⟨v, rfl, rv⟩ := rvs1 r
    split at e
    · rename_i t ds hc
      cases e
      obtain ⟨a, ys, rfl, q, h⟩ := cont_ok R rv hc
      refine ⟨a, ys, rfl, ?_, ?_⟩
      · rcases h with ⟨_, h⟩ | ⟨_, h⟩
        · exact .inl h
        · exact .inr h
      · rw [← q.length]
        exact k F H _ (Same.refl F) R (.pure (.int _))
    · cases e
  · cases e
theorem f_abs : CallM X (.builtin "abs") F.abs := by
  refine ⟨_, call_abs, ?_⟩
  intro Tb B F rho om z σ H xs vs d R r e Q k
  unfold Mi.F.abs at e
  split at e
  · cases e
    obtain ⟨v, rfl, rv⟩ := rvs1 r
    obtain rfl := rv_int rv
    exact ⟨_, rfl, k F H _ (Same.refl F) R (.pure (.int _))⟩
  · cases e
theorem f_max2 (hc : X.calm = true) : CallM X (.builtin "max") F.max2 := by
  refine ⟨_, call_max2 hc, ?_⟩
  intro Tb B F rho om z σ H xs vs d R r e Q k
  unfold Mi.F.max2 at e
  split at e
  · cases e
    obtain ⟨v, w, rfl, rv, rw'⟩ := rvs2 r
    obtain rfl := rv_int rv
    obtain rfl := rv_int rw'
    exact ⟨_, _, rfl, k F H _ (Same.refl F) R (.pure (.int _))⟩
  · cases e
theorem f_int1 : CallM X (.type "int") F.int1 := by
  refine ⟨_, call_int1, ?_⟩
  intro Tb B F rho om z σ H xs vs d R r e Q k
  unfold Mi.F.int1 at e
  split at e
  · cases e
    obtain ⟨v, rfl, rv⟩ := rvs1 r
    obtain rfl := rv_int rv
    exact .inl ⟨_, rfl, k F H _ (Same.refl F) R (.pure (.int _))⟩
  · cases e
    obtain ⟨v, rfl, rv⟩ := rvs1 r
    have ev : ∀ {k : Bool}, Rv (kx X Tb) F rho om (.bl k) v → v = .bl k := fun rv => by
      cases rv with
      | pure rv => cases rv; rfl
    exact .inr ⟨_, by rw [ev rv], k F H _ (Same.refl F) R (.pure (.int _))⟩
  · cases e
theorem cont_tup {d : D} {z : Z} {ds : List D} (h : cont d z = some (true, ds)) : d = .tup ds ∨ d = .kt ds := by
  unfold cont at h
  split at h
  · cases h
  · cases h
    exact .inl rfl
  · cases h
    exact .inr rfl
  · cases h
  · split at h <;> cases h
  · split at h <;> cases h
  · cases h
end
end Mi
set_option Elab.async false
set_option linter.all false
set_option maxRecDepth 100000
namespace Mi
open PySem PySem.Spec PyProof.Rows L2
section
variable {X : Cx} {Tb : Tbs}
theorem mw_and1 {a : Expr} {m : M Bool} {pos : Pos} (ha : PT X a (Tt (kx X Tb) m)) : PW X (.BoolOp .And [a] pos) (Tt (kx X Tb) m) := pw_and1 ha
theorem mw_or1 {a : Expr} {m : M Bool} {pos : Pos} (ha : PT X a (Tt (kx X Tb) m)) : PW X (.BoolOp .Or [a] pos) (Tt (kx X Tb) m) := pw_or1 ha
theorem mw_and {a b : Expr} {rest : List Expr} {m n : M Bool} {pos : Pos} (ha : PT X a (Tt (kx X Tb) m)) (hb : PW X (.BoolOp .And (b :: rest) pos) (Tt (kx X Tb) n)) : PW X (.BoolOp .And (a :: b :: rest) pos) (Tt (kx X Tb) (T.and m n)) := by
  refine pw_imp (pw_and ha hb) fun σ H Q ⟨B, F, rho, om, z, g⟩ => ?_
  refine (g.bnd.imp fun _ _ H1 _ _ c _ _ _ _ _ ⟨F2, rho2, z2, x, eg1, s1, p1, r1, g1⟩ => ?_).tx (R := rB)
  have r1 : c = x := r1
  subst r1
  cases c with
  | true => exact g1.tx
  | false => exact g1.ret false rfl
theorem mw_or {a b : Expr} {rest : List Expr} {m n : M Bool} {pos : Pos} (ha : PT X a (Tt (kx X Tb) m)) (hb : PW X (.BoolOp .Or (b :: rest) pos) (Tt (kx X Tb) n)) : PW X (.BoolOp .Or (a :: b :: rest) pos) (Tt (kx X Tb) (T.or m n)) := by
  refine pw_imp (pw_or ha hb) fun σ H Q ⟨B, F, rho, om, z, g⟩ => ?_
  refine (g.bnd.imp fun _ _ H1 _ _ c _ _ _ _ _ ⟨F2, rho2, z2, x, eg1, s1, p1, r1, g1⟩ => ?_).tx (R := rB)
  have r1 : c = x := r1
  subst r1
  cases c with
  | true => exact g1.ret true rfl
  | false => exact g1.tx
theorem mt_not {a : Expr} {m : M Bool} {pos : Pos} (ha : PT X a (Tt (kx X Tb) m)) : PT X (.UnaryOp .Not a pos) (Tt (kx X Tb) (T.not m)) := by
  refine pt_imp (pt_not ha) fun σ H Q ⟨B, F, rho, om, z, g⟩ => ?_
  refine (g.bnd.imp fun _ _ H1 _ _ c _ _ _ _ _ ⟨F2, rho2, z2, x, eg1, s1, p1, r1, g1⟩ => ?_).tx (R := rB)
  have r1 : c = x := r1
  subst r1
  exact g1.ret _ rfl
theorem me_ite {c a b : Expr} {t : M Bool} {m n : M D} {pos : Pos} (hc : PT X c (Tt (kx X Tb) t)) (ha : PE X a (Te (kx X Tb) m)) (hb : PE X b (Te (kx X Tb) n)) : PE X (.IfExp c a b pos) (Te (kx X Tb) (E.ite t m n)) := by
  refine pe_imp (pe_ifExp hc ha hb) fun σ H Q ⟨B, F, rho, om, z, g⟩ => ?_
  refine (g.bnd.imp fun _ _ H1 _ _ c _ _ _ _ _ ⟨F2, rho2, z2, x, eg1, s1, p1, r1, g1⟩ => ?_).tx (R := rB)
  have r1 : c = x := r1
  subst r1
  cases c with
  | true => exact g1.tx
  | false => exact g1.tx
/-- .. as values -/
theorem me_one {a : Expr} {op} {m : M D} {pos : Pos} (ha : PE X a (Te (kx X Tb) m)) : PE X (.BoolOp op [a] pos) (Te (kx X Tb) m) := pe_one ha
theorem me_and {a b : Expr} {rest : List Expr} {m n : M D} {pos : Pos} (ha : PE X a (Te (kx X Tb) m)) (hb : PE X (.BoolOp .And (b :: rest) pos) (Te (kx X Tb) n)) : PE X (.BoolOp .And (a :: b :: rest) pos) (Te (kx X Tb) (E.and m n)) := by
  refine pe_imp (pe_and ha hb) fun σ H Q ⟨B, F, rho, om, z, g⟩ => ?_
  refine (g.bnd.imp fun _ _ H1 _ _ c _ _ _ _ _ ⟨F2, rho2, z2, x, eg1, s1, p1, r1, g1⟩ => ?_).tx (R := rV (kx X Tb))
  cases r1 with
  | own _ => obtain ⟨_, _, _, e, _⟩ := g1; cases e
  | pure r1 =>
    cases r1 with
    | bl b =>
      refine ⟨b, rfl, ?_⟩
      cases b with
      | true => exact g1.tx
      | false => exact g1.ret _ (.pure (.bl false))
    | _ => obtain ⟨_, _, _, e, _⟩ := g1; cases e
/-- an expression by its truth -/
theorem Rps.isEmpty {K : Kx} {F : Hp} {rho : List Addr} {ds : List D} {vs : List V} (r : Rps K F rho ds vs) : (!ds.isEmpty) = !vs.isEmpty := by cases r <;> rfl
theorem mt_tru {a : Expr} {m : M D} (ha : PE X a (Te (kx X Tb) m)) (he : ∀ whole, isTrue a X.env whole = (do let v ← whole; standAt a.pos; holding [v] (truthy v)) := by intro _; rfl) : PT X a (Tt (kx X Tb) (T.tru m)) := by
  refine pt_imp (pt_truth ha he) fun σ H Q ⟨B, F, rho, om, z, g⟩ => ?_
  refine (g.bnd.imp fun _ _ H1 _ _ v _ _ _ _ _ ⟨F2, rho2, z2, x, eg1, s1, p1, r1, g1⟩ => ?_).tx (R := rV (kx X Tb))
  obtain ⟨R, k, z4, e, kk⟩ := g1
  dsimp only at e
  split at e
  · rename_i k' hk
    cases e
    refine ⟨k, ?_, kk F2 rho2 H1 k (Same.refl _) (List.prefix_refl _) R rfl⟩
    have byc : ∀ {d : D}, (match cont d z2 with | some (_, ds) => some (!ds.isEmpty) | none => none) = some k → Rv (kx X Tb) F2 rho2 om d v → TruV X.K v H1 k := fun {d} e r => by
      split at e
      · rename_i t ds hc
        cases e
        obtain ⟨a, xs, rfl, q, h⟩ := cont_ok R r hc
        rcases h with ⟨_, h⟩ | ⟨_, h⟩
        · exact .inl ⟨xs, h, q.isEmpty⟩
        · exact .inr (.inl ⟨xs, h, q.isEmpty⟩)
      · cases e
    unfold O.tru at hk
    split at hk
    · cases hk
      cases r1 with
      | pure r1 => cases r1; rfl
    · cases hk
      cases r1 with
      | pure r1 => cases r1; rfl
    · cases hk
      cases r1 with
      | pure r1 => cases r1; rfl
    · exact byc hk r1
  · cases e
mutual
theorem toP_ok {K : Kx} {F H : Hp} {rho : List Addr} (e : Same F H) : ∀ {d : D} {v : V} {p : PyData}, O.toP d = some p → Rp K F rho d v → Dp K H v p
  | .non, _, _, h, .non => by cases h; exact .non
  | .bl b, _, _, h, .bl _ => by cases h; exact .bl b
  | .int i, _, _, h, .int _ => by cases h; exact .int i
  | .str x, _, _, h, .str _ => by cases h; exact .str x
  | .tup xs, _, _, h, .tup q r => by
    rw [O.toP] at h
    cases hp : O.toPs xs with
    | none => rw [hp] at h; cases h
    | some ps =>
      rw [hp] at h
      cases h
      exact .tup (SqT.of (e _ _ q)) (toPs_ok e hp r)
  | .kt xs, _, _, h, .kt q r => by
    rw [O.toP] at h
    cases hp : O.toPs xs with
    | none => rw [hp] at h; cases h
    | some ps =>
      rw [hp] at h
      cases h
      exact .tup (Same.sqt e q) (toPs_ok e hp r)
  | .lst xs, _, _, h, .lst q r => by
    rw [O.toP] at h
    cases hp : O.toPs xs with
    | none => rw [hp] at h; cases h
    | some ps =>
      rw [hp] at h
      cases h
      exact .lst (SqL.of (e _ _ q)) (toPs_ok e hp r)
  | .scr xs, _, _, h, .scr q r => by
    rw [O.toP] at h
    cases hp : O.toPs xs with
    | none => rw [hp] at h; cases h
    | some ps =>
      rw [hp] at h
      cases h
      exact .lst (e.seq q) (toPs_ok e hp r)
  | .ref n, _, _, h, .ref _ => by rw [O.toP] at h <;> first | cases h | (intros; contradiction)
  | .dk n, _, _, h, _ => by rw [O.toP] at h <;> first | cases h | (intros; contradiction)
  | .dt n, _, _, h, _ => by rw [O.toP] at h <;> first | cases h | (intros; contradiction)
  | .ins n fs, _, _, h, _ => by rw [O.toP] at h <;> first | cases h | (intros; contradiction)
theorem toPs_ok {K : Kx} {F H : Hp} {rho : List Addr} (e : Same F H) : ∀ {ds : List D} {vs : List V} {ps : List PyData}, O.toPs ds = some ps → Rps K F rho ds vs → DpAll K H vs ps
  | [], _, _, h, .nil => by cases h; exact .nil
  | d :: ds, _, _, h, .cons q r => by
    rw [O.toPs] at h
    split at h
    · rename_i a as h1 h2
      cases h
      exact .cons (toP_ok e h1 q) (toPs_ok e h2 r)
    · cases h
end
/-- a list that may change, as it stands -/
theorem snap_ok {K : Kx} {B : Bs} {F : Hp} {rho : List Addr} {om : Nat → Option Addr} {z : Z} {σ : L2.St} {H : Hp} {d : D} {v : V} {p : PyData} (R : Rl K B F rho om z σ H) (r : Rv K F rho om d v) (h : O.toP (O.snap d z) = some p) : Dp K H v p := by
  have byc : ∀ {d : D}, O.toP (match cont d z with | some (_, ds) => .lst ds | none => .own 0) = some p → (∀ b ds, cont d z = some (b, ds) → b = false) → Rv K F rho om d v → Dp K H v p := by
    intro d e hb r
    split at e
    · rename_i t ds hc
      obtain ⟨a, xs, rfl, q, h9⟩ := cont_ok R r hc
      have ht := hb _ _ hc
      rcases h9 with ⟨_, h8⟩ | ⟨h7, h8⟩
      · rw [O.toP] at e
        cases hp : O.toPs ds with
        | none => rw [hp] at e; cases e
        | some ps =>
          rw [hp] at e
          cases e
          exact .lst h8 (toPs_ok R.rh.fro hp q)
      · rw [ht] at h7
        cases h7
    · cases e
  cases d with
  | own i =>
    have hb : ∀ b ds, cont (.own i) z = some (b, ds) → b = false := by
      intro b ds hc
      have hc : (match z.s[i]? with | some (.own (.lst xs)) => some (false, xs) | _ => none) = some (b, ds) := hc
      split at hc
      · cases hc
        rfl
      · cases hc
    exact byc (d := .own i) h hb r
  | ref n =>
    have hb : ∀ b ds, cont (.ref n) z = some (b, ds) → b = false := by
      intro b ds hc
      have hc : (match z.h[n]? with | some (.lst xs) => some (false, xs) | _ => none) = some (b, ds) := hc
      split at hc
      · cases hc
        rfl
      · cases hc
    exact byc (d := .ref n) h hb r
  | _ =>
    cases r with
    | pure r => exact toP_ok R.rh.fro h r
theorem OpR.either {f : Value → Value → Sem Value} {r r' : R2} (h : OpR X f r) (h' : OpR X f r') : OpR X f fun x y H Q => r x y H Q ∨ r' x y H Q := by
  intro pins s σ H x y v u Q I rx ry e
  rcases e with e | e
  · exact h pins s σ H x y v u Q I rx ry e
  · exact h' pins s σ H x y v u Q I rx ry e
theorem eqP_ok {K : Kx} {B : Bs} {F : Hp} {rho : List Addr} {om : Nat → Option Addr} {z : Z} {σ : L2.St} {H : Hp} {x y : D} {v w : V} {k : Bool} (R : Rl K B F rho om z σ H) (rx : Rv K F rho om x v) (ry : Rv K F rho om y w) (h : O.eqP x y z = some k) :
    (∃ a b, v = .str a ∧ w = .str b ∧ k = decide (a = b)) ∨ ∃ d e, Dp K H v d ∧ Dp K H w e ∧ SeqAt.shaped d = true ∧ SeqAt.shaped e = true ∧ k = PyData.eqv d e := by
  unfold O.eqP at h
  split at h
  · rename_i a b
    cases h
    refine .inl ⟨a, b, ?_, ?_, rfl⟩
    · cases rx with | pure r => cases r; rfl
    · cases ry with | pure r => cases r; rfl
  · refine .inr ?_
    unfold O.eqD at h
    split at h
    · rename_i a b ha hb
      split at h
      · rename_i c
        cases h
        exact ⟨a, b, snap_ok R rx ha, snap_ok R ry hb, c.1, c.2, rfl⟩
      · cases h
    · cases h
theorem str_dec {a b : Str} : decide (V.str a = V.str b) = decide (a = b) := by
  by_cases h : a = b
  · subst h; simp
  · rw [decide_eq_false h, decide_eq_false (fun e => h (by cases e; rfl))]
theorem o_eq (hu : X.A.units + 64 < cLine) : OpM X (compareOp .Eq) O.eq := by
  refine ⟨_, OpR.either op_eq (op_eqD hu), ?_⟩
  intro Tb B F rho om z σ H x y xv yv d R rx ry e Q k
  unfold O.eq at e
  cases hk : O.eqP x y z with
  | none => rw [hk] at e; cases e
  | some b =>
    rw [hk] at e
    cases e
    rcases eqP_ok R rx ry hk with ⟨a, b, rfl, rfl, rfl⟩ | ⟨d, e, h1, h2, h3, h4, h5⟩
    · refine .inl ⟨rfl, ?_⟩
      rw [str_dec]
      exact k F H _ (Same.refl F) R (.pure (.bl _))
    · subst h5
      exact .inr ⟨d, e, h1, h2, h3, h4, k F H _ (Same.refl F) R (.pure (.bl _))⟩
theorem o_ne (hu : X.A.units + 64 < cLine) : OpM X (compareOp .NotEq) O.ne := by
  refine ⟨_, OpR.either op_ne (op_neD hu), ?_⟩
  intro Tb B F rho om z σ H x y xv yv d R rx ry e Q k
  unfold O.ne at e
  cases hk : O.eqP x y z with
  | none => rw [hk] at e; cases e
  | some b =>
    rw [hk] at e
    cases e
    rcases eqP_ok R rx ry hk with ⟨a, b, rfl, rfl, rfl⟩ | ⟨d, e, h1, h2, h3, h4, h5⟩
    · refine .inl ⟨rfl, ?_⟩
      rw [str_dec]
      exact k F H _ (Same.refl F) R (.pure (.bl _))
    · subst h5
      exact .inr ⟨d, e, h1, h2, h3, h4, k F H _ (Same.refl F) R (.pure (.bl _))⟩
end
end Mi
set_option Elab.async false
set_option linter.all false
set_option maxRecDepth 100000
namespace Mi
open PySem PySem.Spec PyProof.Rows L2
section
variable {X : Cx} {Tb : Tbs}
theorem tyName_ok {K : Kx} {B : Bs} {F : Hp} {rho : List Addr} {om : Nat → Option Addr} {z : Z} {σ : L2.St} {H : Hp} {d : D} {v : V} {t : String} (R : Rl K B F rho om z σ H) (r : Rv K F rho om d v) (h : Mi.F.tyName d z = some t) : TyX K H v (.type t) := by
  cases r with
  | pure r =>
    cases r with
    | non => cases h; exact .base .non
    | bl b => cases h; exact .base (.bl b)
    | int b => cases h; exact .base (.int b)
    | str b => cases h; exact .base (.str b)
    | tup q _ =>
      cases h
      exact .base (.tup (R.rh.fro _ _ q))
    | kt q _ =>
      cases h
      rcases Same.sqt R.rh.fro q with (q | ⟨o, q⟩) | ⟨o, its, n, q, c, _⟩
      · exact .base (.tup q)
      · exact .fTuple q
      · exact .kTuple q c
    | lst q _ =>
      cases h
      exact .base (.lst (R.rh.fro _ _ q))
    | @ref n a q =>
      have h : (match z.h[n]? with | some (.lst _) => some "list" | _ => none) = some t := h
      split at h
      · rename_i xs hx
        cases h
        obtain ⟨ys, h1, h2⟩ := R.rh.obs n _ a hx q
        exact .base (.lst h1)
      · cases h
    | _ => cases h
  | @own i a q =>
    have h : (match z.s[i]? with | some (.own (.lst _)) => some "list" | _ => none) = some t := h
    split at h
    · rename_i xs hx
      cases h
      obtain ⟨a', h1, _, h2⟩ := R.sl i _ hx
      rw [q] at h1
      cases h1
      obtain ⟨ys, h3, h4⟩ := h2
      exact .base (.lst h3)
    · cases h
/-- the answer: T the class's name -/
def F.isi (T : String) (x : D) (z : Z) : Option D := match Mi.F.tyName x z with
  | some t => (kitB t T).map .bl
  | none => none
theorem isi_go {K : Kx} {T : String} {m : M D} : ∀ σ H Q, Te K (E.un (Mi.F.isi T) m) σ H Q → tCB (rIsi K) (tCons (Te K m) (tCons (tC (.ty T)) tNil)) σ H Q := by
  rintro σ H Q ⟨B, F, rho, om, z, g⟩
  refine (g.bnd.imp fun _ _ H1 _ _ v _ _ _ _ _ ⟨F2, rho2, z2, x, eg1, s1, p1, r1, g1⟩ => ?_).tx (R := rV K)
  obtain ⟨R, d, z4, e, k⟩ := g1
  dsimp only at e
  split at e
  · cases e
  · rename_i d' hd
    cases e
    unfold Mi.F.isi at hd
    split at hd
    · rename_i t ht
      cases hk : kitB t T with
      | none => rw [hk] at hd; cases hd
      | some b =>
        rw [hk] at hd
        cases hd
        show rIsi K [v, .ty T] H1 Q
        exact ⟨v, .ty T, .type t, .type T, b, rfl, .ty T, tyName_ok R r1 ht, kit_ty hk, k F2 rho2 H1 _ (Same.refl _) (List.prefix_refl _) R (.pure (.bl b))⟩
    · cases hd
theorem me_isi {T : String} {Tn : Str} {p p2 pos : Pos} {e : Expr} {m : M D} (hg : Gl X "isinstance") (hm : X.mg "isinstance" = none) (hg2 : Gl X Tn) (hm2 : X.mg Tn = none) (hv2 : bootBuiltins Tn = some (.type T)) (ha : PE X e (Te (kx X Tb) m)) (hn : Tn ≠ "__name__" := by decide) (hdb : (Tn == ("__debug__" : Str)) = false := by decide)
    (hv : bootBuiltins "isinstance" = some (.builtin "isinstance") := by decide +kernel) (he : starEach [e, .Name Tn p2] X.env = (false, eval e X.env) :: starEach [.Name Tn p2] X.env := by rfl) (he2 : starEach [.Name Tn p2] X.env = (false, eval (.Name Tn p2) X.env) :: starEach [] X.env := by rfl)
    (hpl : (backTo pos (starEach [.Name Tn p2] X.env)).any (·.1) = false := by rfl) : PE X (.Call (.Name "isinstance" p) [e, .Name Tn p2] [] pos) (Te (kx X Tb) (E.un (Mi.F.isi T) m)) :=
  pe_imp (pe_callB call_isi hg hm hv (pa_cons ha (pa_cons (pe_bltn hg2 hm2 hv2 (v := .ty T) rfl hn hdb) pa_nil he2) he) (by decide) (by decide) he hpl) isi_go
theorem mo_none : PO X none (To (kx X Tb) (N.part none)) := po_imp po_none fun σ H Q ⟨B, F, rho, om, z, g⟩ => g.ret none rfl
theorem mo_some {e : Expr} {m : M D} (h : PE X e (Te (kx X Tb) m)) : PO X (some e) (To (kx X Tb) (N.part (some m))) := by
  refine po_imp (po_some h) fun σ H Q ⟨B, F, rho, om, z, g⟩ => ?_
  refine (g.bnd.imp fun _ _ H1 _ _ v _ _ _ _ _ ⟨F2, rho2, z2, x, eg1, s1, p1, r1, g1⟩ => ?_).tx (R := rV (kx X Tb))
  cases r1 with
  | own _ => obtain ⟨_, _, _, e, _⟩ := g1; cases e
  | pure r1 =>
    cases r1 with
    | int i => exact ⟨i, rfl, g1.ret _ rfl⟩
    | _ => obtain ⟨_, _, _, e, _⟩ := g1; cases e
theorem cut_rps {K : Kx} {F : Hp} {rho : List Addr} {ds : List D} {vs : List V} (r : Rps K F rho ds vs) (lo hi : Option Int) : Rps K F rho (N.cutL ds lo hi) (cutV vs lo hi) := by
  unfold N.cutL cutV
  rw [r.length]
  exact (r.drop _).take _
theorem mf_slice {e : Expr} {lo hi : Option Expr} {p2 pos : Pos} {m : M D} {ml mh : Option (M D)} (he : PE X e (Te (kx X Tb) m)) (hl : PO X lo (To (kx X Tb) (N.part ml))) (hu : PO X hi (To (kx X Tb) (N.part mh))) : PE X (.Subscript e (.Slice lo hi none p2) pos) (Tf (kx X Tb) (N.slice m ml mh)) := by
  refine pe_imp (pe_slice sl_list he hl hu) fun σ H Q ⟨B, F, rho, om, z, g⟩ => ?_
  refine (g.bnd.imp fun _ _ H1 _ _ v _ _ _ _ _ ⟨F2, rho2, z2, x, eg1, s1, p1, r1, g1⟩ => ?_).tx (R := rV (kx X Tb))
  refine (g1.bnd.imp fun _ _ H3 _ _ l _ _ _ _ _ ⟨F4, rho4, z4, l', eg2, s2, p2, r2, g2⟩ => ?_).tx (R := rO)
  refine (g2.bnd.imp fun _ _ H5 _ _ u _ _ _ _ _ ⟨F6, rho6, z6, u', eg3, s3, p3, r3, g3⟩ => ?_).tx (R := rO)
  have r2 : l = l' := r2
  have r3 : u = u' := r3
  subst r2 r3
  obtain ⟨R, d, z7, e, k⟩ := g3
  dsimp only at e
  split at e
  · rename_i ds hc
    cases e
    obtain ⟨a, xs, rfl, q, h⟩ := cont_ok R ((r1.mono s2 p2).mono s3 p3) hc
    rcases h with ⟨_, h⟩ | ⟨h8, _⟩
    · refine ⟨a, xs, rfl, h, fun p hp => ?_⟩
      obtain ⟨R2, f2⟩ := R.new (o := .lst (cutV xs l u)) hp
      exact k F6 rho6 _ _ (Same.refl _) (List.prefix_refl _) R2 ⟨p, _, rfl, upd_same, f2, cut_rps q l u⟩
    · cases h8
  · cases e
/-- a list that is no module's constant -/
theorem cont_lst {K : Kx} {B : Bs} {F : Hp} {rho : List Addr} {om : Nat → Option Addr} {z : Z} {σ : L2.St} {H : Hp} {d : D} {v : V} {ds : List D} (R : Rl K B F rho om z σ H) (r : Rv K F rho om d v) (e : cont d z = some (false, ds)) (hs : ∀ xs, d ≠ .scr xs) : ∃ a xs, v = .ref a ∧ Rps K F rho ds xs ∧ H a = some (.lst xs) := by
  cases r with
  | pure r =>
    cases r with
    | lst h q =>
      cases e
      exact ⟨_, _, rfl, q, R.rh.fro _ _ h⟩
    | scr h q => exact absurd rfl (hs _)
    | @ref n a h =>
      have e : (match z.h[n]? with | some (.lst xs) => some (false, xs) | _ => none) = some (false, ds) := e
      split at e
      · rename_i xs hx
        cases e
        obtain ⟨ys, h1, h2⟩ := R.rh.obs n _ a hx h
        exact ⟨a, ys, rfl, h2, h1⟩
      · cases e
    | _ => cases e
  | @own i a h =>
    have e : (match z.s[i]? with | some (.own (.lst xs)) => some (false, xs) | _ => none) = some (false, ds) := e
    split at e
    · rename_i xs hx
      cases e
      obtain ⟨a', h1, _, h2⟩ := R.sl i _ hx
      rw [h] at h1
      cases h1
      obtain ⟨ys, h3, h4⟩ := h2
      exact ⟨a, ys, rfl, h4, h3⟩
    · cases e
theorem szl_ok {n : Nat} (h : n < szl) : n < sizeLine := Nat.lt_trans h (by decide)
theorem mf_cat {a b : Expr} {pos : Pos} {ma mb : M D} (ha : PE X a (Te (kx X Tb) ma)) (hb : PE X b (Te (kx X Tb) mb)) : PE X (.BinOp a .Add b pos) (Tf (kx X Tb) (N.cat ma mb)) := by
  refine pe_imp (pe_op op_cat ha hb) fun σ H Q ⟨B, F, rho, om, z, g⟩ => ?_
  refine (g.bnd.imp fun _ _ H1 _ _ v _ _ _ _ _ ⟨F2, rho2, z2, x, eg1, s1, p1, r1, g1⟩ => ?_).tx (R := rV (kx X Tb))
  refine (g1.bnd.imp fun _ _ H3 _ _ w _ _ _ _ _ ⟨F4, rho4, z4, y, eg2, s2, p2, r2, g2⟩ => ?_).tx (R := rV (kx X Tb))
  obtain ⟨R, d, z7, e, k⟩ := g2
  dsimp only at e
  split at e
  · cases e
  · cases e
  · rename_i hx hy
    split at e
    · rename_i ds es h1 h2
      split at e
      · rename_i hz
        cases e
        obtain ⟨a, xs, rfl, q1, h1⟩ := cont_lst R (r1.mono s2 p2) h1 hx
        obtain ⟨b, ys, rfl, q2, h2⟩ := cont_lst R r2 h2 hy
        refine ⟨a, b, xs, ys, rfl, rfl, h1, h2, ?_, fun p hp => ?_⟩
        · rw [← q1.length, ← q2.length]
          exact Nat.le_of_lt (szl_ok hz)
        · obtain ⟨R2, f2⟩ := R.new (o := .lst (xs ++ ys)) hp
          exact k F4 rho4 _ _ (Same.refl _) (List.prefix_refl _) R2 ⟨p, _, rfl, upd_same, f2, q1.append q2⟩
      · cases e
    · cases e
/-- a change, by values: what the rule asks where the list at l holds xs -/
def ChgV (r : V → List V → Hp → VK → Prop) (f : List D → List D → Option (D × List D)) : Prop :=
  ∀ {K : Kx} {F : Hp} {rho : List Addr} {H : Hp} {l : Addr} {xs vs : List V} {ds as ds' : List D} {d : D}, Same F H → H l = some (.lst xs) → Rps K F rho ds xs → Rps K F rho as vs → f ds as = some (d, ds') →
    ∀ Q : VK, (∀ v xs', Rp K F rho d v → Rps K F rho ds' xs' → Q v (upd H l (.lst xs'))) → r (.ref l) vs H Q
theorem chg_go {K : Kx} {r : V → List V → Hp → VK → Prop} {f : List D → List D → Option (D × List D)} (hv : ChgV r f) {B : Bs} {F : Hp} {rho : List Addr} {om : Nat → Option Addr} {z : Z} {σ : L2.St} {H : Hp} {x : D} {v : V} {xs : List D} {vs : List V} {Q : VK} (r1 : Rv K F rho om x v) (r2 : Rps K F rho xs vs)
    (g : Go K (rV K) B F rho om (E.chgF f x xs) z σ H Q) : r v vs H Q := by
  obtain ⟨R, d, z7, e, k⟩ := g
  cases x with
  | own i =>
    cases r1 with
    | pure r1 => cases r1
    | own h =>
      have e : (match z.s[i]? with
        | some (.own (.lst ds)) => match f ds xs with
          | none => none
          | some (d, ds') => some (d, (⟨z.s.set i (.own (.lst ds')), z.h⟩ : Z))
        | _ => none) = some (d, z7) := e
      split at e
      · rename_i ds hs
        split at e
        · cases e
        · rename_i d' ds' hf
          cases e
          obtain ⟨a', h1, h5, h2⟩ := R.sl i _ hs
          rw [h] at h1
          cases h1
          obtain ⟨ys, h3, h4⟩ := h2
          exact hv R.rh.fro h3 h4 r2 hf Q fun v xs' q1 q2 => k F rho _ _ (Same.refl _) (List.prefix_refl _) (R.mutOwn h hs ⟨xs', upd_same, q2⟩) (.pure q1)
      · cases e
  | ref n =>
    cases r1 with
    | pure r1 =>
      cases r1 with
      | ref h =>
        have e : (match z.h[n]? with
          | some (.lst ds) => match f ds xs with
            | none => none
            | some (d, ds') => some (d, (⟨z.s, z.h.set n (.lst ds')⟩ : Z))
          | _ => none) = some (d, z7) := e
        split at e
        · rename_i ds hs
          split at e
          · cases e
          · rename_i d' ds' hf
            cases e
            obtain ⟨ys, h3, h4⟩ := R.rh.obs n _ _ hs h
            exact hv R.rh.fro h3 h4 r2 hf Q fun v xs' q1 q2 => k F rho _ _ (Same.refl _) (List.prefix_refl _) (R.mutRef h ⟨xs', upd_same, q2⟩) (.pure q1)
        · cases e
  | _ => cases e
/-- what may be changed is a list -/
theorem chg_ty {K : Kx} {B : Bs} {F : Hp} {rho : List Addr} {om : Nat → Option Addr} {z : Z} {σ : L2.St} {H : Hp} {x : D} {v : V} (R : Rl K B F rho om z σ H) (r1 : Rv K F rho om x v) (hx : E.isLst x z = true) : tyV K "list" v H := by
  have byc : ∀ ds b, cont x z = some (b, ds) → (∀ xs, x ≠ .tup xs ∧ x ≠ .kt xs) → tyV K "list" v H := fun ds b hc hn => by
    obtain ⟨a, xs, rfl, q, h⟩ := cont_ok R r1 hc
    rcases h with ⟨_, h⟩ | ⟨hb, _⟩
    · exact .inl ⟨rfl, xs, h⟩
    · rw [hb] at hc
      rcases cont_tup hc with c | c
      · exact absurd c (hn ds).1
      · exact absurd c (hn ds).2
  cases x with
  | own i =>
    cases hc : cont (.own i) z with
    | none =>
      unfold E.isLst at hx
      rw [hc] at hx
      cases hx
    | some p => exact byc p.2 p.1 hc (fun xs => ⟨(fun e => nomatch e), (fun e => nomatch e)⟩)
  | ref i =>
    cases hc : cont (.ref i) z with
    | none =>
      unfold E.isLst at hx
      rw [hc] at hx
      cases hx
    | some p => exact byc p.2 p.1 hc (fun xs => ⟨(fun e => nomatch e), (fun e => nomatch e)⟩)
  | _ => cases hx
theorem bm_go {K : Kx} {r : V → List V → Hp → VK → Prop} {f : List D → List D → Option (D × List D)} (hv : ChgV r f) {m : M D} {ms : List (M D)} : ∀ σ H Q, Te K (E.chg f m ms) σ H Q → tBM K "list" r (Te K m) (Ta K (E.args ms)) σ H Q := by
  rintro σ H Q ⟨B, F, rho, om, z, g⟩
  refine (g.bnd.imp fun _ _ H1 _ _ v _ _ _ _ _ ⟨F2, rho2, z2, x, eg1, s1, p1, r1, g1⟩ => ?_).tx (R := rV K)
  obtain ⟨R, d, z7, e, k⟩ := g1
  dsimp only at e
  split at e
  · rename_i hx
    refine ⟨chg_ty R r1 hx, ?_⟩
    have g2 : Go K (rV K) B F2 rho2 om (bnd (E.args ms) fun xs => E.chgF f x xs) z2 σ H1 Q := ⟨R, d, z7, e, k⟩
    refine (g2.bnd.imp fun _ _ H3 _ _ vs _ _ _ _ _ ⟨F4, rho4, z4, xs, eg4, s4, p4, r4, g4⟩ => ?_).tx (R := rA K)
    exact chg_go hv (r1.mono s4 p4) r4 g4
  · cases e
theorem v_append : ChgV rAppend U.append := by
  intro K F rho H l xs vs ds as ds' d s h q1 q2 e Q k
  unfold U.append at e
  split at e
  · rename_i x
    split at e
    · rename_i hz
      cases e
      cases q2 with
      | cons r t =>
        cases t
        exact ⟨l, xs, _, rfl, rfl, h, by rw [← q1.length]; exact szl_ok hz, k _ _ .non (q1.append (.one r))⟩
    · cases e
  · cases e
theorem v_popAt : ChgV rPopAt U.popAt := by
  intro K F rho H l xs vs ds as ds' d s h q1 q2 e Q k
  unfold U.popAt at e
  split at e
  · rename_i i
    split at e
    · rename_i hi
      split at e
      · rename_i kk hk
        split at e
        · rename_i d' hd
          cases e
          cases q2 with
          | cons r t =>
            cases t
            cases r
            obtain ⟨v, hv, rv⟩ := q1.get hd
            exact ⟨l, xs, i, kk, v, rfl, rfl, h, hi.1, hi.2, by rw [← q1.length]; exact (ixN_seq hk).1, hv, k _ _ rv (q1.eraseIdx kk)⟩
        · cases e
      · cases e
    · cases e
  · cases e
section
variable {o e : Expr} {es : List Expr} {apos cpos : Pos} {m : M D} {ms : List (M D)}
theorem me_append (ho : PE X o (Te (kx X Tb) m)) (ha : PA X (e :: es) (Ta (kx X Tb) (E.args ms))) (hbase : attributeBase o "append" X.env (eval o X.env) = eval o X.env := by rfl)
    (hfew : ((backTo cpos (starEach (e :: es) X.env)).all (fun x => !x.1) && (backToKw cpos (keywordEach [] X.env)).all (fun x => x.1.isSome) && decide ((e :: es).length + ([] : List Keyword).length + (if ([] : List Keyword).isEmpty then 0 else 1) < 30)) = true := by rfl)
    (hline : (apos.endLine == cpos.line) = true := by rfl) (hs : starEach (e :: es) X.env = (false, eval e X.env) :: starEach es X.env := by rfl) (hplain : (backTo cpos (starEach es X.env)).any (·.1) = false := by rfl) :
    PE X (.Call (.Attribute o "append" apos) (e :: es) [] cpos) (Te (kx X Tb) (E.chg U.append m ms)) :=
  pe_imp (pe_bm PySem.F.plainAttrs_list PySem.F.slot_list_append PySem.F.type_list_append mt_append ho ha hbase hfew hline hs hplain) (bm_go v_append)
theorem me_popAt (ho : PE X o (Te (kx X Tb) m)) (ha : PA X (e :: es) (Ta (kx X Tb) (E.args ms))) (hbase : attributeBase o "pop" X.env (eval o X.env) = eval o X.env := by rfl)
    (hfew : ((backTo cpos (starEach (e :: es) X.env)).all (fun x => !x.1) && (backToKw cpos (keywordEach [] X.env)).all (fun x => x.1.isSome) && decide ((e :: es).length + ([] : List Keyword).length + (if ([] : List Keyword).isEmpty then 0 else 1) < 30)) = true := by rfl)
    (hline : (apos.endLine == cpos.line) = true := by rfl) (hs : starEach (e :: es) X.env = (false, eval e X.env) :: starEach es X.env := by rfl) (hplain : (backTo cpos (starEach es X.env)).any (·.1) = false := by rfl) :
    PE X (.Call (.Attribute o "pop" apos) (e :: es) [] cpos) (Te (kx X Tb) (E.chg U.popAt m ms)) :=
  pe_imp (pe_bm PySem.F.plainAttrs_list PySem.F.slot_list_pop PySem.F.type_list_pop mt_popAt ho ha hbase hfew hline hs hplain) (bm_go v_popAt)
end
end
end Mi
set_option Elab.async false
set_option linter.all false
set_option maxRecDepth 100000
namespace Mi
open PySem PySem.Spec PyProof.Rows L2
def Tg (K : Kx) (g : G) : TG := fun v σ H Q => ∃ B F rho om z d, Rl K B F rho om z σ H ∧ Rp K F rho d v ∧ ∃ z', g.run d z = some z' ∧
  ∀ om' σ', (∀ j, ¬ j ∈ g.ws → om' j = om j ∧ σ'[j]? = σ[j]?) → σ'.length = σ.length → (∀ j a, om' j = some a → om j = some a) → Rl K B F rho om' z' σ' H → Q σ' H
def Tgs (K : Kx) (gs : List G) : TGs := fun vs σ H Q => ∃ B F rho om z ds, Rl K B F rho om z σ H ∧ Rps K F rho ds vs ∧ ∃ z', G.runs gs ds z = some z' ∧
  ∀ om' σ', (∀ j, ¬ j ∈ gs.flatMap G.ws → om' j = om j ∧ σ'[j]? = σ[j]?) → σ'.length = σ.length → (∀ j a, om' j = some a → om j = some a) → Rl K B F rho om' z' σ' H → Q σ' H
section
variable {X : Cx} {Tb : Tbs}
theorem mg_nm {i : Nat} {x : Str} {pos : Pos} (hN : X.N.Nodup) (hi : X.N[i]? = some x := by rfl) (hx : Loc X.env.scope x := by first | exact Or.inl rfl | exact Or.inr rfl)
    (hf : X.fn x = true ∨ X.env.scope.names.lookup x = some .local := by first | exact .inl rfl | exact .inr rfl) : PG X (.Name x pos) (Tg (kx X Tb) (G.nm i)) := by
  refine pg_imp (pg_name hN hi hx hf) fun v σ H Q ⟨B, F, rho, om, z, d, R, r, z', e, k⟩ => ?_
  cases e
  refine k (omSet om i none) _ (fun j hj => ?_) (by rw [List.length_set]) (fun j a h => (omSet_none h).2) (R.setVal i r)
  have hj : ¬ j = i := fun q => hj (by rw [q]; exact List.mem_singleton.mpr rfl)
  exact ⟨omSet_ne hj, List.getElem?_set_ne (Ne.symm hj)⟩
theorem mgs_nil : PGs X [] (Tgs (kx X Tb) []) := by
  refine pgs_imp pgs_nil fun vs σ H Q ⟨B, F, rho, om, z, ds, R, r, z', e, k⟩ => ?_
  cases r with
  | nil =>
    cases e
    exact ⟨rfl, k om σ (fun _ _ => ⟨rfl, rfl⟩) rfl (fun _ _ h => h) R⟩
  | cons _ _ => cases e
theorem mgs_cons {e : Expr} {es : List Expr} {g : G} {gs : List G} (h1 : PG X e (Tg (kx X Tb) g)) (h2 : PGs X es (Tgs (kx X Tb) gs)) (hs : (assignEach (e :: es) X.env).map (·.2) = assign e X.env :: (assignEach es X.env).map (·.2) := by rfl) : PGs X (e :: es) (Tgs (kx X Tb) (g :: gs)) := by
  refine pgs_imp (pgs_cons h1 h2 hs) fun vs σ H Q ⟨B, F, rho, om, z, ds, R, r, z', e, k⟩ => ?_
  cases r with
  | nil => cases e
  | @cons d v ds vs r q =>
    have e : (match g.run d z with | none => none | some z1 => G.runs gs ds z1) = some z' := e
    split at e
    · cases e
    · rename_i z1 h1
      refine ⟨v, vs, rfl, B, F, rho, om, z, d, R, r, z1, h1, fun om1 σ1 w1 l1 o1 R1 => ?_⟩
      refine ⟨B, F, rho, om1, z1, ds, R1, q, z', e, fun om2 σ2 w2 l2 o2 R2 => ?_⟩
      refine k om2 σ2 (fun j hj => ?_) (l2.trans l1) (fun j a h => o1 j a (o2 j a h)) R2
      rw [List.flatMap_cons, List.mem_append] at hj
      obtain ⟨a1, b1⟩ := w1 j fun q => hj (.inl q)
      obtain ⟨a2, b2⟩ := w2 j fun q => hj (.inr q)
      exact ⟨a2.trans a1, b2.trans b1⟩
theorem runs_len : ∀ {gs : List G} {ds : List D} {z z' : Z}, G.runs gs ds z = some z' → ds.length = gs.length
  | [], [], _, _, _ => rfl
  | [], _ :: _, _, _, h => by cases h
  | _ :: _, [], _, _, h => by cases h
  | g :: gs, d :: ds, z, z', h => by
    have e : (match g.run d z with | none => none | some z1 => G.runs gs ds z1) = some z' := h
    split at e
    · cases e
    · rw [List.length_cons, List.length_cons, runs_len e]
theorem mg_tp {es : List Expr} {k : Nat} {pos : Pos} {gs : List G} (hc : X.calm = true) (h : PGs X es (Tgs (kx X Tb) gs)) (hn : (assignEach es X.env).length = gs.length := by rfl) (hst : (assignEach es X.env).findIdx? (·.1) = none := by rfl) : PG X (.Tuple es k pos) (Tg (kx X Tb) (G.tp gs)) := by
  refine pg_imp (pg_tup hc h hn hst) fun v σ H Q ⟨B, F, rho, om, z, d, R, r, z', e, k⟩ => ?_
  cases r with
  | tup q r =>
    have hl := r.length
    have hl2 := runs_len (show G.runs gs _ z = some z' from e)
    exact ⟨_, _, rfl, SqT.of (R.rh.fro _ _ q), by omega, B, F, rho, om, z, _, R, r, z', e, k⟩
  | kt q r =>
    have hl := r.length
    have hl2 := runs_len (show G.runs gs _ z = some z' from e)
    exact ⟨_, _, rfl, Same.sqt R.rh.fro q, by omega, B, F, rho, om, z, _, R, r, z', e, k⟩
  | _ => cases e
theorem mg_tl {es : List Expr} {k : Nat} {pos : Pos} {gs : List G} (hc : X.calm = true) (h : PGs X es (Tgs (kx X Tb) gs)) (hn : (assignEach es X.env).length = gs.length := by rfl) (hst : (assignEach es X.env).findIdx? (·.1) = none := by rfl) : PG X (.Tuple es k pos) (Tg (kx X Tb) (G.tl gs)) := by
  refine pg_imp (pg_unl hc h hn hst) fun v σ H Q ⟨B, F, rho, om, z, d, R, r, z', e, k⟩ => ?_
  cases r with
  | lst q r =>
    have hl := r.length
    have hl2 := runs_len (show G.runs gs _ z = some z' from e)
    exact ⟨_, _, rfl, SqL.of (R.rh.fro _ _ q), by omega, B, F, rho, om, z, _, R, r, z', e, k⟩
  | _ => cases e
end
/-- the iterator gives the items, as long as what is walked stands as it is -/
def ItOk (K : Kx) (F : Hp) (rho : List Addr) (om : Nat → Option Addr) (it : It) (J : L2.It) : Prop :=
  ∀ B2 F2 rho2 om2 z2 σ2 H2, Same F F2 → rho <+: rho2 → Rl K B2 F2 rho2 om2 z2 σ2 H2 → (om2 = om ∨ ∀ j, it.chk ≠ some (.own j)) → it.ok z2 = true →
    (∀ i, it.items.length ≤ i → J.stop i H2) ∧ ∀ i d, it.items[i]? = some d → J.go i H2 ∧ ∀ x H3, J.yld i H2 x H3 → H3 = H2 ∧ ∃ F3, Same F2 F3 ∧ (∀ a o, H2 a = some o → NT o → F2 a = none → F3 a = none) ∧ Rl K B2 F3 rho2 om2 z2 σ2 H2 ∧ Rp K F3 rho2 d x
def Ti (K : Kx) (mi : M It) : TI := fun σ H R => ∃ B F rho om z, Rl K B F rho om z σ H ∧ ∃ it z', mi z = some (it, z') ∧
  ∀ F' rho' H' J, Same F F' → rho <+: rho' → Rl K B F' rho' om z' σ H' → ItOk K F' rho' om it J → R J H'
/-- no slot's own list is walked -/
def noOwn (mi : M It) : Prop := ∀ z it z' j, mi z = some (it, z') → it.chk ≠ some (.own j)
section
variable {X : Cx} {Tb : Tbs} {tg : Expr}
def iSeq (K : PySem.W.Frag) (tl : TE) : TI := fun σ H R => tl σ H fun x H1 => ∃ a, x = .ref a ∧ (((∃ xs, SqL K H1 a xs) ∧ R (Itl K a) H1) ∨ ((∃ xs, SqT K H1 a xs) ∧ R (Itt K a) H1))
theorem pi_seq {l : Expr} {tl : TE} (hl : PE X l tl) : PI X tg l (iSeq X.K tl) := by
  refine ⟨fun pins s σ H R I h => ?_⟩
  refine thn (hl.run pins s σ H _ I h) fun v s1 ⟨x, H1, I1, r1, q1⟩ => ?_
  obtain ⟨a, e, q⟩ := q1
  subst e
  cases r1
  rcases q with ⟨⟨xs, hq⟩, q⟩ | ⟨⟨xs, hq⟩, q⟩
  · obtain ⟨its, rv, p, hz⟩ := I1.list hq
    refine wpAny_pyIter_list p.isList ?_
    refine ⟨s1.heap.objs.size, [s1.heap.objs.size], _, _, H1, rfl, I1.kept (t' := s1.toks) fun b o e => Heap.get?_push_of_some _ e, turn_list a _, ⟨_, Heap.get?_push_size _ rfl, rfl, rfl⟩, fun b hb => ?_, q⟩
    have e : b = s1.heap.objs.size := by simpa using hb
    subst e
    exact I1.fpOk (Nat.le_refl _) (I1.hok.fresh (Nat.le_refl _))
  · obtain ⟨its, rv, p, hz⟩ := I1.tuple hq
    refine wpAny_pyIter_tuple (show s1.heap.IsTuple a its.toArray from p) ?_
    refine ⟨s1.heap.objs.size, [s1.heap.objs.size], _, _, H1, rfl, I1.kept (t' := s1.toks) fun b o e => Heap.get?_push_of_some _ e, turn_tuple a _, ⟨_, Heap.get?_push_size _ rfl, rfl, rfl⟩, fun b hb => ?_, q⟩
    have e : b = s1.heap.objs.size := by simpa using hb
    subst e
    exact I1.fpOk (Nat.le_refl _) (I1.hok.fresh (Nat.le_refl _))
/-- the iterator over a list at a -/
theorem itl_ok {K : Kx} {F : Hp} {rho : List Addr} {om : Nat → Option Addr} {it : It} {a : Addr}
    (h : ∀ B2 F2 rho2 om2 z2 σ2 H2, Same F F2 → rho <+: rho2 → Rl K B2 F2 rho2 om2 z2 σ2 H2 → (om2 = om ∨ ∀ j, it.chk ≠ some (.own j)) → it.ok z2 = true → ∃ xs, SqL K H2 a xs ∧ Rps K F2 rho2 it.items xs) : ItOk K F rho om it (Itl K a) := by
  intro B2 F2 rho2 om2 z2 σ2 H2 s p R ho hk
  obtain ⟨xs, hq, r⟩ := h B2 F2 rho2 om2 z2 σ2 H2 s p R ho hk
  refine ⟨fun i hi => ⟨xs, hq, by rw [← r.length]; exact hi⟩, fun i d hd => ?_⟩
  obtain ⟨v, hv, rv⟩ := r.get hd
  refine ⟨⟨xs, v, hq, hv⟩, fun x H3 ⟨e, y⟩ => ⟨e, F2, Same.refl _, fun _ _ _ _ n => n, R, ?_⟩⟩
  have q := y xs hq
  rw [hv] at q
  cases q
  exact rv
theorem itt_ok {K : Kx} {F : Hp} {rho : List Addr} {om : Nat → Option Addr} {it : It} {a : Addr}
    (h : ∀ B2 F2 rho2 om2 z2 σ2 H2, Same F F2 → rho <+: rho2 → Rl K B2 F2 rho2 om2 z2 σ2 H2 → (om2 = om ∨ ∀ j, it.chk ≠ some (.own j)) → it.ok z2 = true → ∃ xs, SqT K H2 a xs ∧ Rps K F2 rho2 it.items xs) : ItOk K F rho om it (Itt K a) := by
  intro B2 F2 rho2 om2 z2 σ2 H2 s p R ho hk
  obtain ⟨xs, hq, r⟩ := h B2 F2 rho2 om2 z2 σ2 H2 s p R ho hk
  refine ⟨fun i hi => ⟨xs, hq, by rw [← r.length]; exact hi⟩, fun i d hd => ?_⟩
  obtain ⟨v, hv, rv⟩ := r.get hd
  refine ⟨⟨xs, v, hq, hv⟩, fun x H3 ⟨e, y⟩ => ⟨e, F2, Same.refl _, fun _ _ _ _ n => n, R, ?_⟩⟩
  have q := y xs hq
  rw [hv] at q
  cases q
  exact rv
theorem it_ok {it : It} {z : Z} {d : D} (h : it.ok z = true) (hc : it.chk = some d) : ∃ b, cont d z = some (b, it.items) := by
  unfold It.ok at h
  rw [hc] at h
  dsimp only at h
  split at h
  · assumption
  · cases h
/-- the five ways to walk -/
theorem seq_at {K : Kx} {B : Bs} {F : Hp} {rho : List Addr} {om : Nat → Option Addr} {z z' : Z} {σ : L2.St} {H : Hp} {x : D} {v : V} {it : It} {R : L2.It → Hp → Prop} (Rr : Rl K B F rho om z σ H) (r : Rv K F rho om x v)
    (e : I.seqF x z = some (it, z')) (k : ∀ J, z' = z → ItOk K F rho om it J → R J H) : ∃ a, v = .ref a ∧ (((∃ xs, SqL K H a xs) ∧ R (Itl K a) H) ∨ ((∃ xs, SqT K H a xs) ∧ R (Itt K a) H)) := by
  cases r with
  | pure r =>
    cases r with
    | @lst a xs ds h q =>
      cases e
      exact ⟨a, rfl, .inl ⟨⟨xs, SqL.of (Rr.rh.fro _ _ h)⟩, k _ rfl (itl_ok fun B2 F2 rho2 om2 z2 σ2 H2 s p R2 _ _ => ⟨xs, SqL.of (R2.rh.fro _ _ (s _ _ h)), q.mono s p⟩)⟩⟩
    | @scr a xs ds h q =>
      cases e
      exact ⟨a, rfl, .inl ⟨⟨xs, Rr.rh.fro.seq h⟩, k _ rfl (itl_ok fun B2 F2 rho2 om2 z2 σ2 H2 s p R2 _ _ => ⟨xs, R2.rh.fro.seq (s.seq h), q.mono s p⟩)⟩⟩
    | @tup a xs ds h q =>
      cases e
      exact ⟨a, rfl, .inr ⟨⟨xs, SqT.of (Rr.rh.fro _ _ h)⟩, k _ rfl (itt_ok fun B2 F2 rho2 om2 z2 σ2 H2 s p R2 _ _ => ⟨xs, SqT.of (R2.rh.fro _ _ (s _ _ h)), q.mono s p⟩)⟩⟩
    | @kt a xs ds h q =>
      cases e
      exact ⟨a, rfl, .inr ⟨⟨xs, Same.sqt Rr.rh.fro h⟩, k _ rfl (itt_ok fun B2 F2 rho2 om2 z2 σ2 H2 s p R2 _ _ => ⟨xs, Same.sqt R2.rh.fro (Same.sqt s h), q.mono s p⟩)⟩⟩
    | @ref n a h =>
      unfold I.seqF at e
      dsimp only at e
      split at e
      · rename_i b xs hc
        cases e
        obtain ⟨a', ys, hv, q, h9⟩ := cont_ok Rr (.pure (.ref h)) hc
        cases hv
        rcases h9 with ⟨_, h9⟩ | ⟨hb, _⟩
        · refine ⟨a, rfl, .inl ⟨⟨ys, h9⟩, k _ rfl (itl_ok fun B2 F2 rho2 om2 z2 σ2 H2 s p R2 _ ok => ?_)⟩⟩
          obtain ⟨b2, hc2⟩ := it_ok ok rfl
          obtain ⟨a2, ys2, hv2, q2, h10⟩ := cont_ok R2 (.pure (.ref (pre_get p h))) hc2
          cases hv2
          rcases h10 with ⟨_, h10⟩ | ⟨hb, _⟩
          · exact ⟨ys2, h10, q2⟩
          · rw [hb] at hc2
            exact (cont_tup hc2).elim (fun z => nomatch z) fun z => nomatch z
        · rw [hb] at hc
          exact (cont_tup hc).elim (fun z => nomatch z) fun z => nomatch z
      · cases e
    | _ => cases e
  | @own i a h =>
    unfold I.seqF at e
    dsimp only at e
    split at e
    · rename_i b xs hc
      cases e
      obtain ⟨a', ys, hv, q, h9⟩ := cont_ok Rr (.own h) hc
      cases hv
      rcases h9 with ⟨_, h9⟩ | ⟨hb, _⟩
      · refine ⟨a, rfl, .inl ⟨⟨ys, h9⟩, k _ rfl (itl_ok fun B2 F2 rho2 om2 z2 σ2 H2 s p R2 ho ok => ?_)⟩⟩
        obtain ⟨b2, hc2⟩ := it_ok ok rfl
        have ho : om2 = om := by
          rcases ho with ho | ho
          · exact ho
          · exact absurd rfl (ho i)
        obtain ⟨a2, ys2, hv2, q2, h10⟩ := cont_ok R2 (.own (by rw [ho]; exact h)) hc2
        cases hv2
        rcases h10 with ⟨_, h10⟩ | ⟨hb, _⟩
        · exact ⟨ys2, h10, q2⟩
        · rw [hb] at hc2
          exact (cont_tup hc2).elim (fun z => nomatch z) fun z => nomatch z
      · rw [hb] at hc
        exact (cont_tup hc).elim (fun z => nomatch z) fun z => nomatch z
    · cases e
theorem mi_seqC {l : Expr} {m : M D} (hl : PE X l (Te (kx X Tb) m)) : PI X tg l (Ti (kx X Tb) (I.seqC m)) := by
  refine pi_imp (pi_seq hl) fun σ H R ⟨B, F, rho, om, z, Rr, it, z', e, k⟩ => ?_
  obtain ⟨x, z1, e1, e2⟩ := bnd_some e
  refine ⟨B, F, rho, om, z, Rr, x, z1, e1, fun F1 rho1 H1 v s1 p1 R1 r1 => ?_⟩
  exact seq_at R1 r1 e2 fun J ez ok => k F1 rho1 H1 J s1 p1 (by rw [ez]; exact R1) ok
theorem mi_seq {l : Expr} {m : M D} (hl : PE X l (Te (kx X Tb) m)) : PI X tg l (Ti (kx X Tb) (I.seq m)) := by
  refine pi_imp (mi_seqC hl) fun σ H R ⟨B, F, rho, om, z, Rr, it, z', e, k⟩ => ?_
  refine ⟨B, F, rho, om, z, Rr, it, z', ?_, k⟩
  obtain ⟨x, z1, e1, e2⟩ := bnd_some e
  unfold I.seqC bnd
  rw [e1]
  show I.seqF x z1 = some (it, z')
  cases x <;> first | exact e2 | cases e2
theorem seq_noOwn {m : M D} : noOwn (I.seq m) := by
  intro z it z' j h
  obtain ⟨x, z1, e1, e2⟩ := bnd_some h
  intro q
  cases x <;> try (cases e2; done)
  · cases e2; cases q
  · cases e2; cases q
  · cases e2; cases q
  · cases e2; cases q
  · dsimp only at e2
    split at e2
    · cases e2; cases q
    · cases e2
theorem irng_get {lo : Int} {n i : Nat} {d : D} (h : (I.irng lo n)[i]? = some d) : i < n ∧ d = .int (lo + (i : Nat)) := by
  unfold I.irng at h
  rw [List.getElem?_map] at h
  cases q : (List.range n)[i]? with
  | none => rw [q] at h; cases h
  | some j =>
    rw [q] at h
    cases h
    obtain ⟨h1, h2⟩ := List.getElem?_eq_some_iff.mp q
    rw [List.getElem_range] at h2
    subst h2
    exact ⟨by simpa using h1, rfl⟩
theorem irng_len {lo : Int} {n : Nat} : (I.irng lo n).length = n := by
  unfold I.irng
  rw [List.length_map, List.length_range]
theorem itr_ok {K : Kx} {F : Hp} {rho : List Addr} {om : Nat → Option Addr} {lo : Int} {n : Nat} : ItOk K F rho om ⟨I.irng lo n, none⟩ (Itr lo n) := by
  intro B2 F2 rho2 om2 z2 σ2 H2 s p R ho hk
  refine ⟨fun i hi => ?_, fun i d hd => ?_⟩
  · rw [irng_len] at hi
    exact hi
  · obtain ⟨h1, rfl⟩ := irng_get hd
    refine ⟨h1, fun x H3 ⟨e, y⟩ => ⟨e, F2, Same.refl _, fun _ _ _ _ n => n, R, ?_⟩⟩
    rw [y]
    exact .int _
theorem mi_rng1 {a : Expr} {m : M D} {p pos : Pos} (hg : Gl X "range") (hm : X.mg "range" = none) (ha : PE X a (Te (kx X Tb) m)) (hs : starEach [a] X.env = [(false, eval a X.env)] := by rfl) (he : starEach [a] X.env = (false, eval a X.env) :: starEach [] X.env := by rfl) : PI X tg (.Call (.Name "range" p) [a] [] pos) (Ti (kx X Tb) (I.rng1 m)) := by
  refine pi_imp (pi_range1 hg hm (pa_cons ha pa_nil he) hs) fun σ H R ⟨B, F, rho, om, z, Rr, it, z', e, k⟩ => ?_
  obtain ⟨x, z1, e1, e2⟩ := bnd_some e
  refine ⟨B, F, rho, om, z, Rr, x, z1, e1, fun F1 rho1 H1 v s1 p1 R1 r1 => ?_⟩
  cases x <;> try (cases e2; done)
  obtain rfl := rv_int r1
  dsimp only at e2
  split at e2
  · rename_i n hn
    cases e2
    exact ⟨_, rfl, hn.1, hn.2, k F1 rho1 H1 _ s1 p1 R1 itr_ok⟩
  · cases e2
theorem mi_rng2 {a b : Expr} {m n : M D} {p pos : Pos} (hg : Gl X "range") (hm : X.mg "range" = none) (ha : PE X a (Te (kx X Tb) m)) (hb : PE X b (Te (kx X Tb) n)) (hs : starEach [a, b] X.env = [(false, eval a X.env), (false, eval b X.env)] := by rfl) (hs2 : starEach [b] X.env = [(false, eval b X.env)] := by rfl)
    (he : starEach [a, b] X.env = (false, eval a X.env) :: starEach [b] X.env := by rfl) (he2 : starEach [b] X.env = (false, eval b X.env) :: starEach [] X.env := by rfl) : PI X tg (.Call (.Name "range" p) [a, b] [] pos) (Ti (kx X Tb) (I.rng2 m n)) := by
  refine pi_imp (pi_range2 hg hm (pa_cons ha (pa_cons hb pa_nil he2) he) hs hs2) fun σ H R ⟨B, F, rho, om, z, Rr, it, z', e, k⟩ => ?_
  obtain ⟨x, z1, e1, e2⟩ := bnd_some e
  refine ⟨B, F, rho, om, z, Rr, x, z1, e1, fun F1 rho1 H1 v s1 p1 R1 r1 => ?_⟩
  obtain ⟨y, z2, e3, e4⟩ := bnd_some e2
  refine ⟨B, F1, rho1, om, z1, R1, y, z2, e3, fun F2 rho2 H2 w s2 p2 R2 r2 => ?_⟩
  cases x <;> try (cases e4; done)
  cases y <;> try (cases e4; done)
  obtain rfl := rv_int r1
  obtain rfl := rv_int r2
  dsimp only at e4
  split at e4
  · rename_i i j hn
    cases e4
    exact ⟨_, _, rfl, ⟨hn.1.1, hn.1.2, hn.2.1, hn.2.2⟩, k F2 rho2 H2 _ (s1.trans s2) (p1.trans p2) R2 itr_ok⟩
  · cases e4
theorem rng1_noOwn {m : M D} : noOwn (I.rng1 m) := by
  intro z it z' j h
  obtain ⟨x, z1, e1, e2⟩ := bnd_some h
  intro q
  cases x <;> try (cases e2; done)
  dsimp only at e2
  split at e2
  · cases e2; cases q
  · cases e2
theorem rng2_noOwn {m n : M D} : noOwn (I.rng2 m n) := by
  intro z it z' j h
  obtain ⟨x, z1, e1, e2⟩ := bnd_some h
  obtain ⟨y, z2, e3, e4⟩ := bnd_some e2
  intro q
  cases x <;> try (cases e4; done)
  cases y <;> try (cases e4; done)
  dsimp only at e4
  split at e4
  · cases e4; cases q
  · cases e4
end
end Mi
set_option Elab.async false
set_option linter.all false
set_option maxRecDepth 100000
namespace Mi
open PySem PySem.Spec PyProof.Rows L2
def Post (K : Kx) (B : Bs) (F : Hp) (rho : List Addr) (D : Ends) (z' : Z) : Fl → Prop
  | .nx => ∀ F' rho' om' σ' H', Same F F' → rho <+: rho' → Rl K B F' rho' om' z' σ' H' → D.nx σ' H'
  | .bk => ∀ F' rho' om' σ' H', Same F F' → rho <+: rho' → Rl K B F' rho' om' z' σ' H' → D.bk σ' H'
  | .ct => ∀ F' rho' om' σ' H', Same F F' → rho <+: rho' → Rl K B F' rho' om' z' σ' H' → D.ct σ' H'
  | .rt d => ∀ F' rho' om' σ' H' v, Same F F' → rho <+: rho' → Rl K B F' rho' om' z' σ' H' → Rp K F' rho' d v → D.rt v H'
def GoS (K : Kx) (B : Bs) (F : Hp) (rho : List Addr) (om : Nat → Option Addr) (c : C) (z : Z) (D : Ends) (σ : L2.St) (H : Hp) : Prop :=
  Rl K B F rho om z σ H ∧ ∃ f z', c z = some (f, z') ∧ Post K B F rho D z' f
def Ts (K : Kx) (c : C) : TS := fun D σ H => ∃ B F rho om z, GoS K B F rho om c z D σ H
theorem Post.mono {K : Kx} {B : Bs} {F F1 : Hp} {rho rho1 : List Addr} {D : Ends} {z' : Z} {f : Fl} (s : Same F F1) (p : rho <+: rho1) (h : Post K B F rho D z' f) : Post K B F1 rho1 D z' f := by
  cases f with
  | nx => exact fun F' rho' om' σ' H' s' p' R => h F' rho' om' σ' H' (s.trans s') (p.trans p') R
  | bk => exact fun F' rho' om' σ' H' s' p' R => h F' rho' om' σ' H' (s.trans s') (p.trans p') R
  | ct => exact fun F' rho' om' σ' H' s' p' R => h F' rho' om' σ' H' (s.trans s') (p.trans p') R
  | rt d => exact fun F' rho' om' σ' H' v s' p' R => h F' rho' om' σ' H' v (s.trans s') (p.trans p') R
section
variable {X : Cx} {Tb : Tbs}
theorem mss_nil : PSs X [] (Ts (kx X Tb) C.skip) := by
  refine pss_imp pss_nil fun D σ H ⟨B, F, rho, om, z, R, f, z', e, k⟩ => ?_
  cases e
  exact k F rho om σ H (Same.refl _) (List.prefix_refl _) R
theorem seq_go {K : Kx} {a b : C} {D : Ends} {σ : L2.St} {H : Hp} (h : Ts K (C.seq a b) D σ H) : Ts K a { D with nx := Ts K b D } σ H := by
  obtain ⟨B, F, rho, om, z, R, f, z', e, k⟩ := h
  unfold C.seq at e
  split at e
  · rename_i z1 h1
    refine ⟨B, F, rho, om, z, R, .nx, z1, h1, fun F' rho' om' σ' H' s p R' => ⟨B, F', rho', om', z1, R', f, z', e, k.mono s p⟩⟩
  · rename_i hn
    refine ⟨B, F, rho, om, z, R, f, z', e, ?_⟩
    cases f with
    | nx => exact absurd e (hn z')
    | _ => exact k
theorem mss_cons {st : Stmt} {rest : List Stmt} {a b : C} (h1 : PS X st (Ts (kx X Tb) a)) (h2 : PSs X rest (Ts (kx X Tb) b)) : PSs X (st :: rest) (Ts (kx X Tb) (C.seq a b)) := pss_imp (pss_cons h1 h2) fun D σ H h => seq_go h
theorem mss_one {st : Stmt} {a : C} (h1 : PS X st (Ts (kx X Tb) a)) : PSs X [st] (Ts (kx X Tb) a) := pss_one h1
/-- a slot's list is laid down, ahead of a statement -/
theorem mss_frz {rest : List Stmt} {b : C} (i : Nat) (h : PSs X rest (Ts (kx X Tb) b)) : PSs X rest (Ts (kx X Tb) (C.seq (C.frz i) b)) := by
  refine pss_imp h fun D σ H ⟨B, F, rho, om, z, R, f, z', e, k⟩ => ?_
  unfold C.seq C.frz at e
  cases hs : z.s[i]? with
  | none =>
    rw [hs] at e
    cases e
  | some x =>
    cases x with
    | own d =>
      cases d with
      | lst ds =>
        rw [hs] at e
        have e : b ⟨z.s.set i (.val (.lst ds)), z.h⟩ = some (f, z') := e
        obtain ⟨a, h1, h2, xs, h3, h4⟩ := R.sl i _ hs
        have f0 := R.freshOwn h1
        have R1 : Rl (kx X Tb) B F rho (omSet om i none) ⟨z.s.set i .no, z.h⟩ σ H := R.forget i
        obtain ⟨R2, s2⟩ := R1.lay f0 h3
        have hσ : σ.set i (some (V.ref a)) = σ := by
          refine List.ext_getElem? fun j => ?_
          by_cases c : j = i
          · subst c
            rw [h2, List.getElem?_set_self (List.getElem?_eq_some_iff.mp h2).1]
          · rw [List.getElem?_set_ne (Ne.symm c)]
        have R3 := R2.setVal i (.lst upd_same (h4.mono s2 (List.prefix_refl _)))
        rw [hσ] at R3
        have ez : (⟨(z.s.set i Sl.no).set i (.val (.lst ds)), z.h⟩ : Z) = ⟨z.s.set i (.val (.lst ds)), z.h⟩ := by rw [List.set_set]
        have R3 : Rl (kx X Tb) B _ rho (omSet (omSet om i none) i none) ⟨(z.s.set i Sl.no).set i (.val (.lst ds)), z.h⟩ σ H := R3
        rw [ez] at R3
        exact ⟨B, _, rho, _, _, R3, f, z', e, k.mono s2 (List.prefix_refl _)⟩
      | _ =>
        rw [hs] at e
        cases e
    | _ =>
      rw [hs] at e
      cases e
theorem ms_cnt {pos : Pos} : PS X (.Continue pos) (Ts (kx X Tb) C.cnt) := by
  refine ps_imp ps_continue fun D σ H ⟨B, F, rho, om, z, R, f, z', e, k⟩ => ?_
  cases e
  exact k F rho om σ H (Same.refl _) (List.prefix_refl _) R
theorem ms_expr {e : Expr} {m : M D} {pos : Pos} (he : PE X e (Te (kx X Tb) m)) (hs : swapsWith e none pos.line X.env = pure false := by rfl) : PS X (.Expr e pos) (Ts (kx X Tb) (C.drop m)) := by
  refine ps_imp (ps_expr he hs) fun D σ H ⟨B, F, rho, om, z, R, f, z', e, k⟩ => ?_
  obtain ⟨x, z1, e1, e2⟩ := bnd_some e
  cases e2
  exact ⟨B, F, rho, om, z, R, x, _, e1, fun F1 rho1 H1 v s p R1 r1 => k F1 rho1 om σ H1 s p R1⟩
theorem ms_ret {e : Expr} {m : M D} {pos : Pos} (he : PE X e (Te (kx X Tb) m)) : PS X (.Return (some e) pos) (Ts (kx X Tb) (C.ret m)) := by
  refine ps_imp (ps_ret he) fun D σ H ⟨B, F, rho, om, z, R, f, z', e, k⟩ => ?_
  obtain ⟨x, z1, e1, e2⟩ := bnd_some e
  refine ⟨B, F, rho, om, z, R, x, z1, e1, fun F1 rho1 H1 v s p R1 r1 => ?_⟩
  cases r1 with
  | pure r1 =>
    have e2 : some (Fl.rt x, z1) = some (f, z') := by
      cases x <;> first | exact e2 | (cases r1; done)
    cases e2
    exact k F1 rho1 om σ H1 v s p R1 r1
  | @own i a h =>
    try dsimp only at e2
    split at e2
    · rename_i ds hs
      cases e2
      obtain ⟨a', h1, h2, h5⟩ := R1.sl i _ hs
      rw [h] at h1
      cases h1
      obtain ⟨xs, h3, h4⟩ := h5
      have f0 := R1.freshOwn h
      obtain ⟨R2, s2⟩ := (R1.forget i).lay f0 h3
      have r3 : Rp (kx X Tb) (upd F1 a (.lst xs)) rho1 (.lst ds) (.ref a) := .lst upd_same (h4.mono s2 (List.prefix_refl _))
      exact k _ rho1 _ σ H1 _ (s.trans s2) p R2 r3
    · cases e2
theorem ms_if {c : Expr} {a b : List Stmt} {t : M Bool} {ca cb : C} {pos : Pos} (hc : PT X c (Tt (kx X Tb) t)) (ha : PSs X a (Ts (kx X Tb) ca)) (hb : PSs X b (Ts (kx X Tb) cb)) : PS X (.If c a b pos) (Ts (kx X Tb) (C.ite t ca cb)) := by
  refine ps_imp (ps_if hc ha hb) fun D σ H ⟨B, F, rho, om, z, R, f, z', e, k⟩ => ?_
  obtain ⟨x, z1, e1, e2⟩ := bnd_some e
  refine ⟨B, F, rho, om, z, R, x, z1, e1, fun F1 rho1 H1 v s p R1 r1 => ?_⟩
  have r1 : v = x := r1
  subst r1
  cases v with
  | true => exact ⟨B, F1, rho1, om, z1, R1, f, z', e2, k.mono s p⟩
  | false => exact ⟨B, F1, rho1, om, z1, R1, f, z', e2, k.mono s p⟩
/-- name = e -/
theorem ms_set {i : Nat} {x : Str} {e : Expr} {m : M D} {pos pos' : Pos} (hN : X.N.Nodup) (he : PE X e (Te (kx X Tb) m)) (hi : X.N[i]? = some x := by rfl) (hx : Loc X.env.scope x := by first | exact Or.inl rfl | exact Or.inr rfl)
    (hs : swapsWith e (some (.Name x pos')) pos.line X.env = pure false := by rfl) (hf : X.fn x = true ∨ X.env.scope.names.lookup x = some .local := by first | exact .inl rfl | exact .inr rfl) : PS X (.Assign [.Name x pos'] e pos) (Ts (kx X Tb) (C.set i m)) := by
  refine ps_imp (ps_set hN hi hx he hs hf) fun D σ H ⟨B, F, rho, om, z, R, f, z', e, k⟩ => ?_
  obtain ⟨d, z1, e1, e2⟩ := bnd_some e
  refine ⟨B, F, rho, om, z, R, d, z1, e1, fun F1 rho1 H1 v s p R1 r1 => ?_⟩
  try dsimp only at e2
  split at e2
  · rename_i hp
    cases e2
    exact k F1 rho1 _ _ H1 s p (R1.setVal i (r1.of_pure hp))
  · cases e2
/-- name = a new list that the name owns -/
theorem own_go {K : Kx} {i : Nat} {m : M (List D)} {te : TE} (h : ∀ σ H Q, Tf K m σ H Q → te σ H Q) : ∀ D σ H, Ts K (C.own i m) D σ H → tAsg te (gName i) D σ H := by
  rintro D σ H ⟨B, F, rho, om, z, R, f, z', e, k⟩
  obtain ⟨ds, z1, e1, e2⟩ := bnd_some e
  refine h σ H _ ⟨B, F, rho, om, z, R, ds, z1, e1, fun F1 rho1 H1 v s p R1 ⟨a, xs, hv, ha, f0, r1⟩ => ?_⟩
  subst hv
  try dsimp only at e2
  split at e2
  · rename_i hl
    cases e2
    exact k F1 rho1 _ _ H1 s p (R1.setOwn i hl f0 ⟨xs, ha, r1⟩)
  · cases e2
theorem ms_own {i : Nat} {x : Str} {e : Expr} {m : M (List D)} {pos pos' : Pos} (hN : X.N.Nodup) (he : PE X e (Tf (kx X Tb) m)) (hi : X.N[i]? = some x := by rfl) (hx : Loc X.env.scope x := by first | exact Or.inl rfl | exact Or.inr rfl)
    (hs : swapsWith e (some (.Name x pos')) pos.line X.env = pure false := by rfl) (hf : X.fn x = true ∨ X.env.scope.names.lookup x = some .local := by first | exact .inl rfl | exact .inr rfl) : PS X (.Assign [.Name x pos'] e pos) (Ts (kx X Tb) (C.own i m)) :=
  ps_imp (ps_set hN hi hx he hs hf) (own_go fun _ _ _ h => h)
/-- a target = e -/
theorem asg_go {K : Kx} {g : G} {m : M D} {te : TE} (h : ∀ σ H Q, Te K m σ H Q → te σ H Q) : ∀ D σ H, Ts K (C.asg g m) D σ H → tAsg te (Tg K g) D σ H := by
  rintro D σ H ⟨B, F, rho, om, z, R, f, z', e, k⟩
  obtain ⟨d, z1, e1, e2⟩ := bnd_some e
  refine h σ H _ ⟨B, F, rho, om, z, R, d, z1, e1, fun F1 rho1 H1 v s p R1 r1 => ?_⟩
  try dsimp only at e2
  split at e2
  · rename_i hp
    split at e2
    · rename_i z2 hg
      cases e2
      exact ⟨B, F1, rho1, om, z1, d, R1, r1.of_pure hp, z', hg, fun om' σ' _ _ _ R2 => k F1 rho1 om' σ' H1 s p R2⟩
    · cases e2
  · cases e2
theorem ms_asg {tg e : Expr} {m : M D} {g : G} {pos : Pos} (he : PE X e (Te (kx X Tb) m)) (hg : PG X tg (Tg (kx X Tb) g)) (hs : swapsWithSole [tg] e pos.line X.env = pure false := by rfl) (hw : swappedStores [tg] e X.env = pure none := by rfl)
    (h1 : (assignEach [tg] X.env).map (·.2) = [assign tg X.env] := by rfl) : PS X (.Assign [tg] e pos) (Ts (kx X Tb) (C.asg g m)) := ps_imp (ps_asg he hg hs hw h1) (asg_go fun _ _ _ h => h)
/-- x op= e -/
def IpM (X : Cx) (op : Operator) (f : D → D → Z → Option D) : Prop := ∃ r : TIp, PIp X op r ∧ ∀ {Tb : Tbs} {B : Bs} {F : Hp} {rho : List Addr} {om : Nat → Option Addr} {z : Z} {σ : L2.St} {H : Hp} {x y : D} {xv yv : V} {d : D}, Rl (kx X Tb) B F rho om z σ H → Rp (kx X Tb) F rho x xv → Rv (kx X Tb) F rho om y yv → f x y z = some d →
    ∀ Q : VK, (∀ v, Rp (kx X Tb) F rho d v → Q v H) → r xv yv H Q
theorem ms_aug {i : Nat} {x : Str} {e : Expr} {m : M D} {op : Operator} {f : D → D → Z → Option D} {pos pos' : Pos} (hN : X.N.Nodup) (ho : IpM X op f) (he : PE X e (Te (kx X Tb) m)) (hi : X.N[i]? = some x := by rfl) (hx : Loc X.env.scope x := by first | exact Or.inl rfl | exact Or.inr rfl)
    (hf : X.fn x = true ∨ X.env.scope.names.lookup x = some .local := by first | exact .inl rfl | exact .inr rfl) : PS X (.AugAssign (.Name x pos') op e pos) (Ts (kx X Tb) (C.aug i f m)) := by
  obtain ⟨r, h1, h2⟩ := ho
  refine ps_imp (ps_aug hN hi hx he h1 hf) fun D σ H ⟨B, F, rho, om, z, R, f, z', e, k⟩ => ?_
  unfold C.aug at e
  split at e
  · rename_i x hx
    obtain ⟨xv, q1, q2⟩ := R.sl i _ hx
    obtain ⟨y, z1, e1, e2⟩ := bnd_some e
    refine ⟨xv, q1, B, F, rho, om, z, R, y, z1, e1, fun F1 rho1 H1 v s p R1 r1 => ?_⟩
    try dsimp only at e2
    split at e2
    · rename_i d hd
      split at e2
      · cases e2
        exact h2 R1 (q2.mono s p) r1 hd _ fun w q => k F1 rho1 _ _ H1 s p (R1.setVal i q)
      · cases e2
    · cases e2
  · cases e
theorem ip_two {K : Kx} {F : Hp} {rho : List Addr} {om : Nat → Option Addr} {z : Z} {x y : D} {xv yv : V} {d : D} {g : Int → Int → Int} {f : D → D → Z → Option D}
    (hf : ∀ x y z, f x y z = match x, y with | .int i, .int j => some (.int (g i j)) | _, _ => none) (rx : Rp K F rho x xv) (ry : Rv K F rho om y yv) (e : f x y z = some d) : ∃ i j, xv = .int i ∧ yv = .int j ∧ d = .int (g i j) := by
  obtain ⟨i, j, rfl, rfl, rfl, rfl, e⟩ := two_ints (g := fun i j => some (.int (g i j))) hf (.pure rx : Rv K F rho om x xv) ry e
  cases e
  exact ⟨i, j, rfl, rfl, rfl⟩
theorem i_add : IpM X .Add O.add := by
  refine ⟨_, ip_add, ?_⟩
  intro Tb B F rho om z σ H x y xv yv d R rx ry e Q k
  obtain ⟨i, j, rfl, rfl, rfl⟩ := ip_two (g := fun i j => i + j) (fun x y z => by cases x <;> cases y <;> rfl) rx ry e
  exact ⟨i, j, rfl, rfl, k _ (.int _)⟩
/-- a[i] = e -/
theorem ms_setIx {a i e : Expr} {ma mi me : M D} {p pos : Pos} (he : PE X e (Te (kx X Tb) me)) (ha : PE X a (Te (kx X Tb) ma)) (hi : PE X i (Te (kx X Tb) mi)) (hs : swapsWithSole [.Subscript a i p] e pos.line X.env = pure false := by rfl) (hw : swappedStores [.Subscript a i p] e X.env = pure none := by rfl)
    (h1 : (assignEach [.Subscript a i p] X.env).map (·.2) = [assign (.Subscript a i p) X.env] := by rfl) (hsub : ∀ v, assign (.Subscript a i p) X.env v = (do
      let ov ← holding [v] (eval a X.env)
      let iv ← holding [v, ov] (eval i X.env)
      standAt p
      holding [v, ov, iv] (setItem ov iv v)
      release [v, ov, iv] []) := by intro _; rfl) : PS X (.Assign [.Subscript a i p] e pos) (Ts (kx X Tb) (C.setIx ma mi me)) := by
  refine ps_imp (ps_asg he (pg_sub ha hi set_list hsub) hs hw h1) fun D σ H ⟨B, F, rho, om, z, R, f, z', e, k⟩ => ?_
  obtain ⟨d, z1, e1, e2⟩ := bnd_some e
  refine ⟨B, F, rho, om, z, R, d, z1, e1, fun F1 rho1 H1 v s1 p1 R1 r1 => ?_⟩
  obtain ⟨x, z2, e3, e4⟩ := bnd_some e2
  refine ⟨B, F1, rho1, om, z1, R1, x, z2, e3, fun F2 rho2 H2 w s2 p2 R2 r2 => ?_⟩
  obtain ⟨y, z3, e5, e6⟩ := bnd_some e4
  refine ⟨B, F2, rho2, om, z2, R2, y, z3, e5, fun F3 rho3 H3 u s3 p3 R3 r3 => ?_⟩
  try dsimp only at e6
  split at e6
  · rename_i hp
    have rd : Rp (kx X Tb) F3 rho3 d v := ((r1.of_pure hp).mono s2 p2).mono s3 p3
    have r2' := r2.mono s3 p3
    have fin : ∀ {ds ds' : List Mi.D} {xs : List V} {j : Int}, U.setAt ds j d = some ds' → Rps (kx X Tb) F3 rho3 ds xs → ∃ jj, ixN xs.length j = some jj ∧ Rps (kx X Tb) F3 rho3 ds' (xs.set jj v) := fun {ds ds' xs j} h q => by
      unfold U.setAt at h
      cases hj : ixN ds.length j with
      | none => rw [hj] at h; cases h
      | some jj =>
        rw [hj] at h
        cases h
        exact ⟨jj, by rw [← q.length]; exact hj, q.set rd jj⟩
    split at e6
    · rename_i kk j
      obtain rfl := rv_int r3
      cases r2' with
      | pure r2' => cases r2'
      | own h =>
        split at e6
        · rename_i ds hs
          split at e6
          · rename_i ds' hd
            cases e6
            obtain ⟨a', h1, h5, h2⟩ := R3.sl _ _ hs
            rw [h] at h1
            cases h1
            obtain ⟨ys, h3, h4⟩ := h2
            obtain ⟨jj, hj, q⟩ := fin hd h4
            exact ⟨_, ys, j, jj, rfl, rfl, h3, hj, k F3 rho3 _ _ _ ((s1.trans s2).trans s3) ((p1.trans p2).trans p3) (R3.mutOwn h hs ⟨_, upd_same, q⟩)⟩
          · cases e6
        · cases e6
    · rename_i n j
      obtain rfl := rv_int r3
      cases r2' with
      | pure r2' =>
        cases r2' with
        | ref h =>
          split at e6
          · rename_i ds hs
            split at e6
            · rename_i ds' hd
              cases e6
              obtain ⟨ys, h3, h4⟩ := R3.rh.obs n _ _ hs h
              obtain ⟨jj, hj, q⟩ := fin hd h4
              exact ⟨_, ys, j, jj, rfl, rfl, h3, hj, k F3 rho3 _ _ _ ((s1.trans s2).trans s3) ((p1.trans p2).trans p3) (R3.mutRef h ⟨_, upd_same, q⟩)⟩
            · cases e6
          · cases e6
    · cases e6
  · cases e6
theorem ms_for {tg iter : Expr} {body : List Stmt} {mi : M It} {g : G} {b : C} {pos : Pos} (hp : PassesOwn (model X.prog X.w) X.A X.env X.xe) (hc : X.calm = true) (hi : PI X tg iter (Ti (kx X Tb) mi)) (hn : noOwn mi) (hg : PG X tg (Tg (kx X Tb) g)) (hb : PSs X body (Ts (kx X Tb) b))
    (hs : ∀ x, foldedSetIterable iter X.env x = pure x := by intro _; rfl) : PS X (.For tg iter body [] pos) (Ts (kx X Tb) (C.for_ mi g b)) := by
  refine ps_imp (ps_for hp hc hi hg hb hs) fun D σ H ⟨B, F, rho, om, z, R, f, z', e, k⟩ => ?_
  obtain ⟨it, z1, e1, e2⟩ := bnd_some e
  refine ⟨B, F, rho, om, z, R, it, z1, e1, fun F1 rho1 H1 J s1 p1 R1 ok => ?_⟩
  have hno := fun j => hn z it z1 j e1
  have k1 := k.mono s1 p1
  refine ⟨fun i m σ H => ∃ F2 rho2 om2 z2, Same F1 F2 ∧ rho1 <+: rho2 ∧ Rl (kx X Tb) B F2 rho2 om2 z2 σ H ∧ m = it.items.length - i ∧ i ≤ it.items.length ∧ C.loop it g b (it.items.drop i) z2 = some (f, z'),
    ⟨_, F1, rho1, om, z1, Same.refl _, List.prefix_refl _, R1, rfl, Nat.zero_le _, e2⟩, ?_⟩
  rintro i m σ2 H2 ⟨F2, rho2, om2, z2, s2, p2, R2, rfl, hi, hl⟩
  cases hd : it.items.drop i with
  | nil =>
    rw [hd] at hl
    have hl : (if it.ok z2 = true then some (Fl.nx, z2) else none) = some (f, z') := hl
    split at hl
    · rename_i hok
      cases hl
      have hi2 : it.items.length ≤ i := by
        have := List.drop_eq_nil_iff.mp hd
        exact this
      obtain ⟨o1, o2⟩ := ok B F2 rho2 om2 _ σ2 H2 s2 p2 R2 (.inr hno) hok
      exact .inl ⟨o1 i hi2, k1 F2 rho2 om2 σ2 H2 s2 p2 R2⟩
    · cases hl
  | cons d ds =>
    rw [hd] at hl
    have hds : it.items.drop (i + 1) = ds := by rw [← List.drop_drop, hd]; rfl
    have hget : it.items[i]? = some d := by
      have := List.getElem?_drop (xs := it.items) (i := i) (j := 0)
      rw [hd] at this
      simpa using this.symm
    have hlt : i < it.items.length := (List.getElem?_eq_some_iff.mp hget).1
    unfold C.loop at hl
    split at hl
    · rename_i hok
      obtain ⟨o1, o2⟩ := ok B F2 rho2 om2 z2 σ2 H2 s2 p2 R2 (.inr hno) hok
      obtain ⟨g1, y1⟩ := o2 i d hget
      split at hl
      · cases hl
      · rename_i z3 hg3
        cases hb4 : b z3 with
        | none =>
          rw [hb4] at hl
          cases hl
        | some q4 =>
          obtain ⟨f4, z4⟩ := q4
          rw [hb4] at hl
          refine .inr ⟨g1, fun σ' H' => ∃ F' rho' om', Same F2 F' ∧ rho2 <+: rho' ∧ Rl (kx X Tb) B F' rho' om' z4 σ' H' ∧ C.loop it g b ds z4 = some (f, z'), ?_, fun x H3 hy => ?_⟩
          · rintro σ' H' ⟨F', rho', om', s', p', R', hl'⟩
            exact ⟨it.items.length - (i + 1), by omega, F', rho', om', z4, s2.trans s', p2.trans p', R', rfl, hlt, by rw [hds]; exact hl'⟩
          · obtain ⟨rfl, F3, s23, _, R23, rx⟩ := y1 x H3 hy
            refine ⟨B, F3, rho2, om2, z2, d, R23, rx, z3, hg3, fun om3 σ3 _ _ _ R3 => ⟨B, F3, rho2, om3, z3, R3, f4, z4, hb4, ?_⟩⟩
            cases f4 with
            | nx => exact fun F' rho' om' σ' H' s' p' R' => ⟨F', rho', om', s23.trans s', p', R', hl⟩
            | ct => exact fun F' rho' om' σ' H' s' p' R' => ⟨F', rho', om', s23.trans s', p', R', hl⟩
            | bk =>
              cases hl
              exact fun F' rho' om' σ' H' s' p' R' => k1 F' rho' om' σ' H' (s2.trans (s23.trans s')) (p2.trans p') R'
            | rt d4 =>
              cases hl
              exact fun F' rho' om' σ' H' v s' p' R' r => k1 F' rho' om' σ' H' v (s2.trans (s23.trans s')) (p2.trans p') R' r
    · cases hl
/-- so many turns -/
def whlF (t : M Bool) (b : C) : Nat → C
  | 0, _ => none
  | n + 1, z => match t z with
    | none => none
    | some (false, z1) => some (.nx, z1)
    | some (true, z1) => match b z1 with
      | none => none
      | some (.nx, z2) => whlF t b n z2
      | some (.ct, z2) => whlF t b n z2
      | some (.bk, z2) => some (.nx, z2)
      | some (.rt d, z2) => some (.rt d, z2)
theorem whl_F {t : M Bool} {b : C} : ∀ z r, C.whl t b z = some r → ∃ n, whlF t b n z = some r := by
  refine C.whl.partial_correctness t b _ fun w ih z r h => ?_
  split at h
  · cases h
  · rename_i z1 ht
    refine ⟨1, ?_⟩
    unfold whlF
    rw [ht]
    exact h
  · rename_i z1 ht
    split at h
    · cases h
    · rename_i z2 hb
      obtain ⟨n, hn⟩ := ih _ _ h
      refine ⟨n + 1, ?_⟩
      unfold whlF
      rw [ht]
      dsimp only
      rw [hb]
      exact hn
    · rename_i z2 hb
      obtain ⟨n, hn⟩ := ih _ _ h
      refine ⟨n + 1, ?_⟩
      unfold whlF
      rw [ht]
      dsimp only
      rw [hb]
      exact hn
    · rename_i z2 hb
      refine ⟨1, ?_⟩
      unfold whlF
      rw [ht]
      dsimp only
      rw [hb]
      exact h
    · rename_i d z2 hb
      refine ⟨1, ?_⟩
      unfold whlF
      rw [ht]
      dsimp only
      rw [hb]
      exact h
theorem ms_whl {c : Expr} {body : List Stmt} {t : M Bool} {b : C} {pos : Pos} (hp : PassesOwn (model X.prog X.w) X.A X.env X.xe) (hc : PT X c (Tt (kx X Tb) t)) (hb : PSs X body (Ts (kx X Tb) b)) : PS X (.While c body [] pos) (Ts (kx X Tb) (C.whl t b)) := by
  refine ps_imp (ps_while hp hc hb) fun D σ H ⟨B, F, rho, om, z, R, f, z', e, k⟩ => ?_
  obtain ⟨n, hn⟩ := whl_F _ _ e
  refine ⟨fun m σ H => ∃ F2 rho2 om2 z2, Same F F2 ∧ rho <+: rho2 ∧ Rl (kx X Tb) B F2 rho2 om2 z2 σ H ∧ whlF t b m z2 = some (f, z'), ⟨n, F, rho, om, z, Same.refl _, List.prefix_refl _, R, hn⟩, ?_⟩
  rintro m σ2 H2 ⟨F2, rho2, om2, z2, s2, p2, R2, hl⟩
  cases m with
  | zero => cases hl
  | succ m =>
    unfold whlF at hl
    cases ht : t z2 with
    | none =>
      rw [ht] at hl
      cases hl
    | some q =>
      obtain ⟨k3, z3⟩ := q
      rw [ht] at hl
      refine ⟨B, F2, rho2, om2, z2, R2, k3, z3, ht, fun F3 rho3 H3 y s3 p3 R3 r3 => ?_⟩
      have r3 : y = k3 := r3
      subst r3
      cases y with
      | false =>
        cases hl
        exact k F3 rho3 _ _ _ (s2.trans s3) (p2.trans p3) R3
      | true =>
        dsimp only at hl
        cases hb4 : b z3 with
        | none =>
          rw [hb4] at hl
          cases hl
        | some q4 =>
          obtain ⟨f4, z4⟩ := q4
          rw [hb4] at hl
          refine ⟨fun σ' H' => ∃ F' rho' om', Same F3 F' ∧ rho3 <+: rho' ∧ Rl (kx X Tb) B F' rho' om' z4 σ' H' ∧ whlF t b m z4 = some (f, z'), ?_, B, F3, rho3, om2, z3, R3, f4, z4, hb4, ?_⟩
          · rintro σ' H' ⟨F', rho', om', s', p', R', hl'⟩
            exact ⟨m, Nat.lt_succ_self m, F', rho', om', z4, (s2.trans s3).trans s', (p2.trans p3).trans p', R', hl'⟩
          · cases f4 with
            | nx => exact fun F' rho' om' σ' H' s' p' R' => ⟨F', rho', om', s', p', R', hl⟩
            | ct => exact fun F' rho' om' σ' H' s' p' R' => ⟨F', rho', om', s', p', R', hl⟩
            | bk =>
              cases hl
              exact fun F' rho' om' σ' H' s' p' R' => k F' rho' om' σ' H' ((s2.trans s3).trans s') ((p2.trans p3).trans p') R'
            | rt d4 =>
              cases hl
              exact fun F' rho' om' σ' H' v s' p' R' r => k F' rho' om' σ' H' v ((s2.trans s3).trans s') ((p2.trans p3).trans p') R' r
end
end Mi
set_option Elab.async false
set_option linter.all false
set_option maxRecDepth 100000
namespace Mi
open PySem PySem.Spec PyProof.Rows L2
section
variable {K : Kx} {B : Bs} {F F' : Hp} {rho rho' : List Addr} {om om' : Nat → Option Addr} {z z' : Z} {σ σ' : L2.St} {H H' : Hp} {a p : Addr} {d : D} {v : V} {o : HO}
/-- an object of nobody's is changed -/
theorem Rl.mutFresh (R : Rl K B F rho om z σ H) (f : Fresh K B F rho om H p) (hn : NT o := by exact fun _ e => nomatch e) : Rl K B F rho om z σ (upd H p o) ∧ Fresh K B F rho om (upd H p o) p := by
  have nr : ∀ (n : Nat) a, rho[n]? = some a → a ≠ p := fun n a e q => f.r n (by rw [← q]; exact e)
  have no : ∀ (i : Nat) a, om i = some a → a ≠ p := fun i a e q => f.o i (by rw [← q]; exact e)
  refine ⟨⟨R.rh.mono1 (fun _ _ e => e) (Same.upd_out R.rh.fro f.f) (fun n a e => upd_ne (nr n a e)) R.rh.nf (R.rh.tb.mono (fun _ _ e => e) (fun q hq => upd_ne (f.k q hq)) R.rh.tb.nf), R.len, fun i x e => (R.sl i x e).mono (fun _ _ e => e) (List.prefix_refl _) (fun a e => upd_ne (no i a e)) rfl, R.oj, R.orr, R.off,
    fun i a e => by rw [upd_ne (no i a e)]; exact R.oth i a e, fun a u e m => ?_, R.exf, R.exr, R.nF, R.nr, R.no, R.ow, R.to, R.mt⟩, ⟨f.f, f.r, f.o, f.b, ⟨_, upd_same, hn⟩, f.k⟩⟩
  have c : a ≠ p := fun c => by
    subst c
    rcases f.b with h | h
    · exact m h
    · rw [h] at e
      cases e
  rw [upd_ne c]
  exact R.frm a u e m
theorem Rl.wipe1 (R : Rl K B F rho om z σ H) {i : Nat} (h : om i = none) : Rl K B F rho om ⟨z.s.set i .no, z.h⟩ (σ.set i none) H := by
  refine ⟨R.rh, by simp only [List.length_set]; exact R.len, fun j x e => ?_, R.oj, R.orr, R.off, R.oth, R.frm, R.exf, R.exr, R.nF, R.nr, R.no, fun j a e => ?_, R.to, R.mt⟩
  · have e : (z.s.set i .no)[j]? = some x := e
    by_cases c : j = i
    · subst c
      have hl : j < z.s.length := by
        have := (List.getElem?_eq_some_iff.mp e).1
        simpa using this
      rw [List.getElem?_set_self hl] at e
      cases e
      trivial
    · rw [List.getElem?_set_ne (Ne.symm c)] at e
      rw [List.getElem?_set_ne (Ne.symm c)]
      exact R.sl j x e
  · have c : ¬ j = i := fun c => by
      subst c
      rw [h] at e
      cases e
    obtain ⟨d', q⟩ := R.ow j a e
    exact ⟨d', by rw [← q]; exact List.getElem?_set_ne (Ne.symm c)⟩
theorem Rl.wipe (R : Rl K B F rho om z σ H) : ∀ {vs : List Nat}, (∀ v ∈ vs, om v = none) → Rl K B F rho om ⟨N.wipe z.s vs, z.h⟩ (L2.wipe σ vs) H
  | [], _ => R
  | v :: vs, h => (Rl.wipe R (vs := vs) fun w hw => h w (List.mem_cons_of_mem _ hw)).wipe1 (h v List.mem_cons_self)
end
theorem wipe_eq {σ σ2 : L2.St} {vs : List Nat} (hl : σ2.length = σ.length) (h : ∀ j, ¬ j ∈ vs → σ2[j]? = σ[j]?) : L2.wipe σ2 vs = L2.wipe σ vs := by
  have inn : ∀ {τ : L2.St} {vs : List Nat} {j : Nat}, j ∈ vs → j < τ.length → (L2.wipe τ vs)[j]? = some none := by
    intro τ vs
    induction vs with
    | nil => intro j h; cases h
    | cons v vs ih =>
      intro j h hj
      unfold L2.wipe
      by_cases c : v = j
      · subst c
        exact List.getElem?_set_self (by rw [wipe_length]; exact hj)
      · rw [List.getElem?_set_ne c]
        rcases List.mem_cons.mp h with q | q
        · exact absurd q.symm c
        · exact ih q hj
  refine List.ext_getElem? fun j => ?_
  by_cases c : j ∈ vs
  · by_cases hj : j < σ.length
    · rw [inn c hj, inn c (by rw [hl]; exact hj)]
    · rw [List.getElem?_eq_none (by rw [wipe_length]; omega), List.getElem?_eq_none (by rw [wipe_length]; omega)]
  · rw [wipe_out c, wipe_out c]
    exact h j c
theorem rest_out {s0 s : List Sl} : ∀ {vs : List Nat} {j : Nat}, ¬ j ∈ vs → (N.rest s0 s vs)[j]? = s[j]?
  | [], _, _ => rfl
  | v :: vs, j, h => by
    unfold N.rest
    have ih := rest_out (s0 := s0) (s := s) (vs := vs) (j := j) fun q => h (List.mem_cons_of_mem _ q)
    cases s0[v]? with
    | none => exact ih
    | some x =>
      have c : v ≠ j := fun c => h (by rw [c]; exact List.mem_cons_self)
      dsimp only
      rw [List.getElem?_set_ne c]
      exact ih
theorem rest_len {s0 s : List Sl} : ∀ {vs : List Nat}, (N.rest s0 s vs).length = s.length
  | [] => rfl
  | v :: vs => by
    unfold N.rest
    cases s0[v]? with
    | none => exact rest_len
    | some x =>
      dsimp only
      rw [List.length_set]
      exact rest_len
theorem rest_in {s0 s : List Sl} (hl : s0.length = s.length) : ∀ {vs : List Nat} {j : Nat}, j ∈ vs → (N.rest s0 s vs)[j]? = s0[j]?
  | [], _, h => by cases h
  | v :: vs, j, h => by
    unfold N.rest
    by_cases c : v = j
    · subst c
      cases q : s0[v]? with
      | none =>
        dsimp only
        have h1 : s0.length ≤ v := List.getElem?_eq_none_iff.mp q
        exact List.getElem?_eq_none (by rw [rest_len]; omega)
      | some x =>
        have h1 := (List.getElem?_eq_some_iff.mp q).1
        exact List.getElem?_set_self (by rw [rest_len]; omega)
    · have hj : j ∈ vs := by
        rcases List.mem_cons.mp h with q | q
        · exact absurd q.symm c
        · exact q
      cases q : s0[v]? with
      | none => exact rest_in hl hj
      | some x =>
        dsimp only
        rw [List.getElem?_set_ne c]
        exact rest_in hl hj
section
variable {K : Kx} {B : Bs} {F F' : Hp} {rho rho' : List Addr} {om om' : Nat → Option Addr} {z z' : Z} {σ σ' : L2.St} {H H' : Hp}
/-- behind a comprehension the names are what they were -/
theorem Rl.rest {H1 : Hp} {F1 : Hp} {rho1 : List Addr} {z1 : Z} {vs : List Nat} (R1 : Rl K B F1 rho1 om z1 σ H1) (s : Same F1 F) (p : rho1 <+: rho) (R : Rl K B F rho om z (L2.wipe σ vs) H) (hn : ∀ v ∈ vs, om v = none) : Rl K B F rho om ⟨N.rest z1.s z.s vs, z.h⟩ σ H := by
  have hl : z1.s.length = z.s.length := by rw [R1.len, R.len, wipe_length]
  refine ⟨R.rh, by rw [rest_len, ← hl]; exact R1.len, fun j x e => ?_, R.oj, R.orr, R.off, R.oth, R.frm, R.exf, R.exr, R.nF, R.nr, R.no, fun j a e => ?_, R.to, R.mt⟩
  · have e : (N.rest z1.s z.s vs)[j]? = some x := e
    by_cases c : j ∈ vs
    · rw [rest_in hl c] at e
      have q := R1.sl j x e
      cases x with
      | no => trivial
      | val d =>
        obtain ⟨v, h1, h2⟩ := q
        exact ⟨v, h1, h2.mono s p⟩
      | own d =>
        obtain ⟨a, h1, _⟩ := q
        rw [hn j c] at h1
        cases h1
    · rw [rest_out c] at e
      have q := R.sl j x e
      rw [wipe_out c] at q
      exact q
  · have c : ¬ j ∈ vs := fun c => by
      rw [hn j c] at e
      cases e
    obtain ⟨d', q⟩ := R.ow j a e
    exact ⟨d', by rw [← q]; exact rest_out c⟩
end
theorem szl_line : szl ≤ sizeLine := by decide
theorem lc_go {K : Kx} {mi : M It} {g : G} {vs : List Nat} {tt : M Bool} {te : M D} (hw : ∀ w ∈ g.ws, w ∈ vs) : ∀ σ H Q, Tf K (N.comp mi g vs tt te) σ H Q → tLc (Ti K mi) (Tg K g) (Tt K tt) (Te K te) vs σ H Q := by
  rintro σ H Q ⟨B, F, rho, om, z, R, xs, z', e, k⟩
  obtain ⟨it, z1, e1, e2⟩ := bnd_some e
  refine ⟨B, F, rho, om, z, R, it, z1, e1, fun F1 rho1 H1 J s1 p1 R1 ok D hD => ?_⟩
  try dsimp only at e2
  split at e2
  · rename_i hc
    split at e2
    · cases e2
    · rename_i accF zF hloop
      cases e2
      have hn : ∀ v ∈ vs, om v = none := fun v hv => by
        cases q : om v with
        | none => rfl
        | some a =>
          obtain ⟨d, hd⟩ := R1.ow v a q
          have := List.all_eq_true.mp hc.2 v hv
          rw [hd] at this
          cases this
      obtain ⟨R2, f2⟩ := R1.new (o := .lst []) hD
      refine ⟨fun i m H => ∃ F2 rho2 z2 acc accv, Same F1 F2 ∧ rho1 <+: rho2 ∧ Rl K B F2 rho2 om z2 (L2.wipe σ vs) H ∧ Fresh K B F2 rho2 om H D ∧ H D = some (.lst accv) ∧ Rps K F2 rho2 acc accv ∧ m = it.items.length - i ∧ i ≤ it.items.length ∧ acc.length ≤ i ∧ N.loop it g vs tt te (it.items.drop i) acc z2 = some (xs, zF),
        ⟨_, F1, rho1, _, [], [], Same.refl _, List.prefix_refl _, R2.wipe hn, f2, upd_same, .nil, rfl, Nat.zero_le _, Nat.le_refl _, hloop⟩, ?_⟩
      rintro i m H2 ⟨F2, rho2, z2, acc, accv, s2, p2, R2, f2, hD2, ra, rfl, hi, hal, hl⟩
      cases hd : it.items.drop i with
      | nil =>
        rw [hd] at hl
        have hl : (if it.ok z2 = true then some (acc, z2) else none) = some (xs, zF) := hl
        split at hl
        · rename_i hok
          cases hl
          have hi2 : it.items.length ≤ i := List.drop_eq_nil_iff.mp hd
          obtain ⟨o1, o2⟩ := ok B F2 rho2 om _ _ H2 s2 p2 R2 (.inl rfl) hok
          exact .inl ⟨o1 i hi2, k F2 rho2 H2 _ (s1.trans s2) (p1.trans p2) (R1.rest s2 p2 R2 hn) ⟨D, accv, rfl, hD2, f2, ra⟩⟩
        · cases hl
      | cons d ds =>
        rw [hd] at hl
        have hds : it.items.drop (i + 1) = ds := by rw [← List.drop_drop, hd]; rfl
        have hget : it.items[i]? = some d := by
          have := List.getElem?_drop (xs := it.items) (i := i) (j := 0)
          rw [hd] at this
          simpa using this.symm
        have hlt : i < it.items.length := (List.getElem?_eq_some_iff.mp hget).1
        unfold N.loop at hl
        split at hl
        · rename_i hok
          obtain ⟨o1, o2⟩ := ok B F2 rho2 om z2 _ H2 s2 p2 R2 (.inl rfl) hok
          obtain ⟨g1, y1⟩ := o2 i d hget
          split at hl
          · cases hl
          · rename_i zg hg3
            cases ht : tt zg with
            | none =>
              rw [ht] at hl
              cases hl
            | some q4 =>
              obtain ⟨b4, zt⟩ := q4
              rw [ht] at hl
              refine .inr ⟨g1, fun H' => ∃ F3 rho3 z3 acc3 accv3, Same F2 F3 ∧ rho2 <+: rho3 ∧ Rl K B F3 rho3 om z3 (L2.wipe σ vs) H' ∧ Fresh K B F3 rho3 om H' D ∧ H' D = some (.lst accv3) ∧ Rps K F3 rho3 acc3 accv3 ∧ acc3.length ≤ i + 1 ∧ N.loop it g vs tt te ds acc3 z3 = some (xs, zF), ?_, fun x H3 hy => ?_⟩
              · rintro H' ⟨F3, rho3, z3, acc3, accv3, s3, p3, R3, f3, hD3, ra3, hl3, hll⟩
                exact ⟨it.items.length - (i + 1), by omega, F3, rho3, z3, acc3, accv3, s2.trans s3, p2.trans p3, R3, f3, hD3, ra3, rfl, hlt, hl3, by rw [hds]; exact hll⟩
              · obtain ⟨rfl, F2a, s2a, n2a, R2a, rx⟩ := y1 x H3 hy
                have ra := ra.mono s2a (List.prefix_refl _)
                have f2 : Fresh K B F2a rho2 om _ D := ⟨n2a _ _ hD2 (fun _ e => nomatch e) f2.f, f2.r, f2.o, f2.b, f2.t, f2.k⟩
                refine ⟨B, F2a, rho2, om, z2, d, R2a, rx, zg, hg3, fun om' σ' hw' hl' hom Rg => ?_⟩
                have eom : om' = om := by
                  funext j
                  by_cases c : j ∈ g.ws
                  · rw [hn j (hw j c)]
                    cases q : om' j with
                    | none => rfl
                    | some a =>
                      have := hom j a q
                      rw [hn j (hw j c)] at this
                      cases this
                  · exact (hw' j c).1
                subst eom
                have ew : L2.wipe σ' vs = L2.wipe σ vs := by
                  refine wipe_eq (hl'.trans (wipe_length _ _)) fun j c => ?_
                  rw [(hw' j fun q => c (hw j q)).2, wipe_out c]
                refine ⟨ew, _, F2a, rho2, om', zg, Rg.reb, b4, zt, ht, fun F3 rho3 H3 y s3 p3 R3 r3 => ?_⟩
                have r3 : y = b4 := r3
                subst r3
                obtain ⟨f3, hD3⟩ := f2.through R3 fun i h => h
                rw [hD2] at hD3
                have R3b := Rg.back R3
                cases y with
                | true =>
                  refine iteT ?_
                  dsimp only at hl
                  cases hte : te zt with
                  | none =>
                    rw [hte] at hl
                    cases hl
                  | some q5 =>
                    obtain ⟨x5, z5⟩ := q5
                    rw [hte] at hl
                    dsimp only at hl
                    split at hl
                    · rename_i hp5
                      refine ⟨_, F3, rho3, om', zt, R3b.reb, x5, z5, hte, fun F4 rho4 H4 w s4 p4 R4 r4 => ?_⟩
                      obtain ⟨f4, hD4⟩ := f3.through R4 fun i h => h
                      rw [hD3] at hD4
                      have R4b := R3b.back R4
                      have hzl : accv.length < sizeLine := by
                        rw [← ra.length]
                        exact Nat.lt_of_lt_of_le (Nat.lt_of_le_of_lt hal (Nat.lt_of_lt_of_le hlt hc.1)) szl_line
                      refine ⟨accv, hD4, hzl, ?_⟩
                      obtain ⟨R5, f5⟩ := R4b.mutFresh (o := .lst (accv ++ [w])) f4
                      have R6 := R5.wipe hn
                      rw [ew] at R6
                      exact ⟨F4, rho4, _, acc ++ [x5], accv ++ [w], s2a.trans (s3.trans s4), p3.trans p4, R6, f5, upd_same, ((ra.mono s3 p3).mono s4 p4).append (.one (r4.of_pure hp5)), by rw [List.length_append, List.length_singleton]; omega, hl⟩
                    · cases hl
                | false =>
                  refine iteF ?_
                  have R6 := R3b.wipe hn
                  rw [ew] at R6
                  exact ⟨F3, rho3, _, acc, accv, s2a.trans s3, p3, R6, f3, hD3, ra.mono s3 p3, by omega, hl⟩
        · cases hl
  · cases e2
theorem frz_go {K : Kx} {m : M (List D)} : ∀ σ H Q, Te K (E.frz m) σ H Q → Tf K m σ H Q := by
  rintro σ H Q ⟨B, F, rho, om, z, g⟩
  refine (g.bnd.imp fun _ _ H1 _ _ v _ _ _ _ _ ⟨F2, rho2, z2, xs, eg1, s1, p1, ⟨p, vs, hv, hp, f, r1⟩, g1⟩ => ?_).tx (R := rF K)
  subst hv
  obtain ⟨R, d, z4, e, k⟩ := g1
  cases e
  obtain ⟨R3, s3⟩ := R.lay f hp
  exact k _ rho2 _ _ s3 (List.prefix_refl _) R3 (.pure (.lst upd_same (r1.mono s3 (List.prefix_refl _))))
theorem set_go {K : Kx} {i : Nat} {m : M D} {te : TE} (h : ∀ σ H Q, Te K m σ H Q → te σ H Q) : ∀ D σ H, Ts K (C.set i m) D σ H → tAsg te (gName i) D σ H := by
  rintro D σ H ⟨B, F, rho, om, z, R, f, z', e, k⟩
  obtain ⟨d, z1, e1, e2⟩ := bnd_some e
  refine h σ H _ ⟨B, F, rho, om, z, R, d, z1, e1, fun F1 rho1 H1 v s p R1 r1 => ?_⟩
  try dsimp only at e2
  split at e2
  · rename_i hp
    cases e2
    exact k F1 rho1 _ _ H1 s p (R1.setVal i (r1.of_pure hp))
  · cases e2
theorem mts_nil {X : Cx} : PTs X [] (Tt (kx X Tb) (ret true)) := pts_imp pts_nil fun σ H Q ⟨B, F, rho, om, z, g⟩ => g.ret true rfl
theorem mts_one {X : Cx} {c : Expr} {t : M Bool} (h : PT X c (Tt (kx X Tb) t)) : PTs X [c] (Tt (kx X Tb) t) := pts_one h
section
variable {X : Cx} {Tb : Tbs} {elt tg iter : Expr} {ifs : List Expr} {scope : Scope} {own : List (Str × Nat)} {pos : Pos} {mi : M It} {g : G} {tt : M Bool} {te : M D}
theorem mf_lc (vs : List Nat) (hc : X.calm = true) (hN : X.N.Nodup) (hi : PI X tg iter (Ti (kx X Tb) mi)) (ok : BlkOk X.N X.env.scope scope own) (hv : own.map (·.2) = vs)
    (hg : ∀ (s : Shared) (H : Hp) (C : Addr) (cl : List (Str × Addr)) (fp : List Addr), PG (X.blk s H scope (compEnvC scope cl C X.env) fp) tg (Tg (kx X Tb) g)) (ht : ∀ (s : Shared) (H : Hp) (C : Addr) (cl : List (Str × Addr)) (fp : List Addr), PTs (X.blk s H scope (compEnvC scope cl C X.env) fp) ifs (Tt (kx X Tb) tt))
    (he : ∀ (s : Shared) (H : Hp) (C : Addr) (cl : List (Str × Addr)) (fp : List Addr), PE (X.blk s H scope (compEnvC scope cl C X.env) fp) elt (Te (kx X Tb) te)) (hw : ∀ w ∈ g.ws, w ∈ vs) (hs : ∀ x, foldedSetIterable iter X.env x = pure x := by intro _; rfl) :
    PE X (.ListComp elt [⟨tg, iter, ifs, 0⟩] scope pos) (Tf (kx X Tb) (N.comp mi g vs tt te)) := by
  subst hv
  exact pe_imp (pe_lc hc hN hi ok hg ht he hs) (lc_go hw)
theorem ms_frzLc {i : Nat} {y : Str} {py spos : Pos} (vs : List Nat) (hc : X.calm = true) (hN : X.N.Nodup) (hy : X.N[i]? = some y) (hyl : X.env.scope.names.lookup y = some .local)
    (hsw : swapsWith (.ListComp elt [⟨tg, iter, ifs, 0⟩] scope pos) (some (.Name y py)) spos.line X.env = pure true) (hi : PI X tg iter (Ti (kx X Tb) mi)) (ok : BlkOk X.N X.env.scope scope own) (hv : own.map (·.2) = vs)
    (hg : ∀ (s : Shared) (H : Hp) (C : Addr) (cl : List (Str × Addr)) (fp : List Addr), PG (X.blk s H scope (compEnvC scope cl C X.env) fp) tg (Tg (kx X Tb) g)) (ht : ∀ (s : Shared) (H : Hp) (C : Addr) (cl : List (Str × Addr)) (fp : List Addr), PTs (X.blk s H scope (compEnvC scope cl C X.env) fp) ifs (Tt (kx X Tb) tt))
    (he : ∀ (s : Shared) (H : Hp) (C : Addr) (cl : List (Str × Addr)) (fp : List Addr), PE (X.blk s H scope (compEnvC scope cl C X.env) fp) elt (Te (kx X Tb) te)) (hw : ∀ w ∈ g.ws, w ∈ vs) (hs : ∀ x, foldedSetIterable iter X.env x = pure x := by intro _; rfl) :
    PS X (.Assign [.Name y py] (.ListComp elt [⟨tg, iter, ifs, 0⟩] scope pos) spos) (Ts (kx X Tb) (C.set i (E.frz (N.comp mi g vs tt te)))) := by
  subst hv
  exact ps_imp (ps_setLc hc hN hy hyl hsw hi ok hg ht he hs) (set_go fun σ H Q h => lc_go hw σ H Q (frz_go σ H Q h))
end
theorem fn_body {K : Kx} {sc : Scope} {N ps : List Str} {b : C} {vs : List V} {H : Hp} {Q : VK} {E : XK} (S : FnScope N ps sc) (h : spM ps.length K (fn N.length ps.length b) vs H Q E) : Ts K b { nx := fun _ H' => Q .non H', rt := Q } (start N vs) H := by
  obtain ⟨hl, F0, rho, h0, ds, rh, rp, d, h', e, kk⟩ := h
  have hN : ps.length ≤ N.length := by
    have := congrArg List.length S.pre
    rw [List.length_take] at this
    omega
  have R0 := Rl.begin (N := N) rh rp (by omega)
  unfold fn at e
  split at e
  · cases hb2 : b ⟨slots N.length ds, h0⟩ with
    | none =>
      rw [hb2] at e
      cases e
    | some q =>
      obtain ⟨f1, z1⟩ := q
      rw [hb2] at e
      refine ⟨_, F0, rho, _, _, R0, f1, z1, hb2, ?_⟩
      have fin : ∀ {F' rho' om' σ' H' d v}, Rl K ⟨H, F0, rho, fun a => (∃ n : Nat, rho[n]? = some a) ∨ ∃ p ∈ K.tb.t, p.1 = a⟩ F' rho' om' z1 σ' H' → Rp K F' rho' d v → some (d, z1.h) = some ((d : D), h') → (∀ (F' : Hp) (rho' : List Addr) (H' : Hp) (v : V), Same F0 F' → rho <+: rho' → Rh K F' rho' h' H' → (∀ a o, H a = some o → (∀ n : Nat, ¬ rho[n]? = some a) → (∀ p ∈ K.tb.t, ¬ p.1 = a) → H' a = some o) →
          (∀ a o, H a = some o → NT o → F0 a = none → (∀ n : Nat, ¬ rho[n]? = some a) → F' a = none) → (∀ (n : Nat) a, rho'[n]? = some a → (∃ m : Nat, rho[m]? = some a) ∨ H a = none) → Rp K F' rho' d v → Q v H') → Q v H' := by
        intro F' rho' om' σ' H' d v R' r e kk
        cases e
        exact kk F' rho' H' v R'.exf R'.exr R'.rh (fun a o h1 h2 h3 => R'.frm a o h1 fun q => q.elim (fun ⟨n, q⟩ => h2 n q) fun ⟨p, hp, q⟩ => h3 p hp q) (fun a o h1 nt h2 h3 => by
            by_cases c : ∃ p ∈ K.tb.t, p.1 = a
            · obtain ⟨p, hp, rfl⟩ := c
              exact R'.rh.tb.nf p hp
            · exact R'.nF a o h1 nt h2 fun q => q.elim (fun ⟨n, q⟩ => h3 n q) c) (fun n a q => by
            rcases R'.nr n a q with (h | ⟨p, hp, rfl⟩) | h
            · exact .inl h
            · exact absurd q (R'.rh.tr p hp n)
            · exact .inr h) r
      cases f1 with
      | nx =>
        cases e
        exact fun F' rho' om' σ' H' s p R' => fin R' .non rfl kk
      | rt d' =>
        cases e
        exact fun F' rho' om' σ' H' v s p R' r => fin R' r rfl kk
      | bk => cases e
      | ct => cases e
  · cases e
end Mi
set_option Elab.async false
set_option linter.all false
set_option maxRecDepth 100000
namespace Mi
open PySem PySem.Spec PyProof.Rows L2
end Mi
set_option Elab.async false
set_option linter.all false
set_option maxRecDepth 100000
namespace Mi
open PySem PySem.Spec PyProof.Rows L2
def Smn (n : Nat) (i : Int) : Prop := i.natAbs < 2 ^ n
theorem Smn.up {n : Nat} {i : Int} (h : Smn n i) (hn : n ≤ bigN) : smI i := Nat.lt_of_lt_of_le h (Nat.pow_le_pow_right (by decide) hn)
theorem Smn.mono {n m : Nat} {i : Int} (h : Smn n i) (hn : n ≤ m) : Smn m i := Nat.lt_of_lt_of_le h (Nat.pow_le_pow_right (by decide) hn)
theorem Smn.mul {n m : Nat} {i j : Int} (h : Smn n i) (h2 : Smn m j) : Smn (n + m) (i * j) := wide_lt h h2
theorem Smn.add {n m : Nat} {i j : Int} (h : Smn n i) (h2 : Smn m j) : Smn (max n m + 1) (i + j) := by
  have a := h.mono (Nat.le_max_left n m)
  have b := h2.mono (Nat.le_max_right n m)
  unfold Smn at *
  rw [Nat.pow_succ]
  omega
theorem Smn.sub {n m : Nat} {i j : Int} (h : Smn n i) (h2 : Smn m j) : Smn (max n m + 1) (i - j) := by
  have a := h.mono (Nat.le_max_left n m)
  have b := h2.mono (Nat.le_max_right n m)
  unfold Smn at *
  rw [Nat.pow_succ]
  omega
theorem Smn.neg {n : Nat} {i : Int} (h : Smn n i) : Smn n (-i) := by
  unfold Smn at *
  omega
theorem Smn.of {i : Int} (h : -9223372036854775808 ≤ i ∧ i ≤ 9223372036854775807) : Smn 64 i := by
  unfold Smn
  omega
theorem Smn.nat {n : Nat} (h : n < 2 ^ 64) : Smn 64 (OfNat.ofNat n : Int) := by
  unfold Smn
  exact h
theorem Smn.ite {n m : Nat} {i j : Int} {c : Prop} [Decidable c] (h : Smn n i) (h2 : Smn m j) : Smn (max n m) (if c then i else j) := by
  split
  · exact h.mono (Nat.le_max_left _ _)
  · exact h2.mono (Nat.le_max_right _ _)
theorem Smn.div {n : Nat} {i j : Int} (h : Smn n i) (hj : 0 < j) : Smn n (i / j) := by
  unfold Smn at *
  refine Nat.lt_of_le_of_lt ?_ h
  have h1 := Int.natAbs_ediv_le_natAbs i j
  exact h1
theorem Smn.mod {n : Nat} {i j : Int} (h : Smn n j) (hj : 0 < j) : Smn n (i % j) := by
  unfold Smn at *
  have h1 := Int.emod_nonneg i (show j ≠ 0 by omega)
  have h2 := Int.emod_lt_of_pos i hj
  omega
def isNon : D → Bool
  | .non => true
  | _ => false
def noScr : D → Bool
  | .scr _ => false
  | _ => true
def itemsOf : D → Option (List D)
  | .lst ys => some ys
  | .tup ys => some ys
  | .scr ys => some ys
  | _ => none
section
variable {z z1 z2 z3 : Z} {a b c : M D} {x y w d : D} {i j k : Int} {p q : Bool} {t u : M Bool} {s : List Sl} {h h' : List D}
theorem ev_var {n : Nat} (e : z.s[n]? = some (.val d)) : E.var n z = some (d, z) := by
  unfold E.var
  rw [e]
theorem ev_varO {n : Nat} (e : z.s[n]? = some (.own d)) : E.var n z = some (.own n, z) := by
  unfold E.var
  rw [e]
theorem ev_c : E.c d z = some (d, z) := rfl
theorem bnd_of {α β : Type} {m : M α} {f : α → M β} {v : α} (h : m z = some (v, z1)) : bnd m f z = f v z1 := by
  unfold bnd
  rw [h]
theorem ev_op {f : D → D → Z → Option D} (h1 : a z = some (x, z1)) (h2 : b z1 = some (y, z2)) (h3 : f x y z2 = some d) : E.op f a b z = some (d, z2) := by
  unfold E.op
  rw [bnd_of h1, bnd_of h2, h3]
theorem ev_un {f : D → Z → Option D} (h1 : a z = some (x, z1)) (h3 : f x z1 = some d) : E.un f a z = some (d, z1) := by
  unfold E.un
  rw [bnd_of h1, h3]
theorem ev_add (h1 : a z = some (.int i, z1)) (h2 : b z1 = some (.int j, z2)) : E.op O.add a b z = some (.int (i + j), z2) := ev_op h1 h2 rfl
theorem ev_sub (h1 : a z = some (.int i, z1)) (h2 : b z1 = some (.int j, z2)) : E.op O.sub a b z = some (.int (i - j), z2) := ev_op h1 h2 rfl
theorem mul_v (hi : smI i) (hj : smI j) : O.mul (.int i) (.int j) z = some (.int (i * j)) := by
  unfold O.mul
  exact if_pos ⟨hi, hj⟩
theorem div_v (hi : 0 < j) (hj : smI j) : O.div (.int i) (.int j) z = some (.int (i / j)) := by
  unfold O.div
  exact if_pos ⟨hi, hj⟩
theorem mod_v (hi : 0 < j) : O.mod (.int i) (.int j) z = some (.int (i % j)) := by
  unfold O.mod
  exact if_pos hi
theorem ev_mul {n m : Nat} (h1 : a z = some (.int i, z1)) (h2 : b z1 = some (.int j, z2)) (hi : Smn n i) (hj : Smn m j) (hn : n ≤ bigN) (hm : m ≤ bigN) : E.op O.mul a b z = some (.int (i * j), z2) := ev_op h1 h2 (mul_v (hi.up hn) (hj.up hm))
theorem ev_div {m : Nat} (h1 : a z = some (.int i, z1)) (h2 : b z1 = some (.int j, z2)) (hi : 0 < j) (hj : Smn m j) (hm : m ≤ bigN) : E.op O.div a b z = some (.int (i / j), z2) := ev_op h1 h2 (div_v hi (hj.up hm))
theorem ev_mod (h1 : a z = some (.int i, z1)) (h2 : b z1 = some (.int j, z2)) (hi : 0 < j) : E.op O.mod a b z = some (.int (i % j), z2) := ev_op h1 h2 (mod_v hi)
theorem ev_neg (h1 : a z = some (.int i, z1)) : E.un O.neg a z = some (.int (-i), z1) := ev_un h1 rfl
theorem ev_lt (h1 : a z = some (.int i, z1)) (h2 : b z1 = some (.int j, z2)) : E.op O.lt a b z = some (.bl (decide (i < j)), z2) := ev_op h1 h2 rfl
theorem ev_le (h1 : a z = some (.int i, z1)) (h2 : b z1 = some (.int j, z2)) : E.op O.le a b z = some (.bl (decide (i ≤ j)), z2) := ev_op h1 h2 rfl
theorem ev_gt (h1 : a z = some (.int i, z1)) (h2 : b z1 = some (.int j, z2)) : E.op O.gt a b z = some (.bl (decide (j < i)), z2) := ev_op h1 h2 rfl
theorem ev_ge (h1 : a z = some (.int i, z1)) (h2 : b z1 = some (.int j, z2)) : E.op O.ge a b z = some (.bl (decide (j ≤ i)), z2) := ev_op h1 h2 rfl
theorem eqP_int : O.eqP (.int i) (.int j) z = some (decide (i = j)) := by
  show (if True ∧ True then some (i == j) else none) = _
  rw [if_pos ⟨trivial, trivial⟩, Bool.beq_eq_decide_eq]
theorem ev_eq {kk : Bool} (h1 : a z = some (x, z1)) (h2 : b z1 = some (y, z2)) (h3 : O.eqP x y z2 = some kk) : E.op O.eq a b z = some (.bl kk, z2) := ev_op h1 h2 (by unfold O.eq; rw [h3]; rfl)
theorem ev_ne {kk : Bool} (h1 : a z = some (x, z1)) (h2 : b z1 = some (y, z2)) (h3 : O.eqP x y z2 = some kk) : E.op O.ne a b z = some (.bl (!kk), z2) := ev_op h1 h2 (by unfold O.ne; rw [h3]; rfl)
theorem ev_eqI (h1 : a z = some (.int i, z1)) (h2 : b z1 = some (.int j, z2)) : E.op O.eq a b z = some (.bl (decide (i = j)), z2) := ev_eq h1 h2 eqP_int
theorem ev_neI (h1 : a z = some (.int i, z1)) (h2 : b z1 = some (.int j, z2)) : E.op O.ne a b z = some (.bl (!decide (i = j)), z2) := ev_ne h1 h2 eqP_int
theorem ev_ix {tt : Bool} {ds : List D} (h1 : a z = some (x, z1)) (h2 : b z1 = some (.int i, z2)) (h3 : cont x z2 = some (tt, ds)) (h4 : atI ds i = some d) : E.op O.ix a b z = some (d, z2) := ev_op h1 h2 (by unfold O.ix; rw [h3]; exact h4)
theorem ev_isN (h1 : a z = some (x, z1)) {kk : Bool} (h2 : isNon x = kk) : E.isN a z = some (.bl kk, z1) := by
  unfold E.isN
  rw [bnd_of h1, ← h2]
  cases x <;> rfl
theorem ev_notN (h1 : a z = some (x, z1)) {kk : Bool} (h2 : (!isNon x) = kk) : E.notN a z = some (.bl kk, z1) := by
  unfold E.notN
  rw [bnd_of h1, ← h2]
  cases x <;> rfl
theorem ev_args0 : E.args [] z = some ([], z) := rfl
theorem ev_args {as : List (M D)} {xs : List D} (h1 : a z = some (x, z1)) (h2 : E.args as z1 = some (xs, z2)) (hp : isPure x = true) : E.args (a :: as) z = some (x :: xs, z2) := by
  unfold E.args
  rw [bnd_of h1, bnd_of h2, if_pos hp]
  rfl
theorem ev_tup {as : List (M D)} {xs : List D} (h1 : E.args as z = some (xs, z1)) : E.tup as z = some (.tup xs, z1) := by
  unfold E.tup
  rw [bnd_of h1]
  rfl
theorem ev_frz {m : M (List D)} {xs : List D} (h1 : m z = some (xs, z1)) : E.frz m z = some (.lst xs, z1) := by
  unfold E.frz
  rw [bnd_of h1]
  rfl
theorem ev_shr {m : M (List D)} {xs : List D} (h1 : m z = some (xs, ⟨s, h⟩)) : E.shr m z = some (.ref h.length, ⟨s, h ++ [.lst xs]⟩) := by
  unfold E.shr
  rw [bnd_of h1]
theorem ev_disp {as : List (M D)} {xs : List D} (h1 : E.args as z = some (xs, z1)) : N.disp as z = some (xs, z1) := h1
theorem ev_call {mf : Fn} {as : List (M D)} {xs : List D} (h1 : E.args as z = some (xs, ⟨s, h⟩)) (h2 : mf xs h = some (d, h')) : E.call mf as z = some (d, ⟨s, h'⟩) := by
  unfold E.call
  rw [bnd_of h1]
  show (match mf xs h with | none => none | some (d, h') => some (d, _)) = _
  rw [h2]
theorem ev_blt1 {f : List D → Z → Option D} (h1 : a z = some (x, z1)) (h2 : f [x] z1 = some d) : E.blt f [a] z = some (d, z1) := by
  show bnd a _ z = _
  rw [bnd_of h1, h2]
theorem ev_blt2 {f : List D → Z → Option D} {xs : List D} (h1 : E.args [a, b] z = some (xs, z1)) (h2 : f xs z1 = some d) : E.blt f [a, b] z = some (d, z1) := by
  show bnd (E.args [a, b]) _ z = _
  rw [bnd_of h1, h2]
theorem ev_and (h1 : a z = some (.bl p, z)) (h2 : p = true → b z = some (.bl q, z)) : E.and a b z = some (.bl (p && q), z) := by
  unfold E.and
  rw [bnd_of h1]
  cases p with
  | true => exact h2 rfl
  | false => rfl
theorem ev_or (h1 : a z = some (.bl p, z)) (h2 : p = false → b z = some (.bl q, z)) : E.or a b z = some (.bl (p || q), z) := by
  unfold E.or
  rw [bnd_of h1]
  cases p with
  | false => exact h2 rfl
  | true => rfl
theorem ev_not (h1 : a z = some (.bl p, z1)) : E.not a z = some (.bl (!p), z1) := by
  unfold E.not
  rw [bnd_of h1]
  rfl
theorem ev_chain {f g : D → D → Z → Option D} (h1 : a z = some (x, z1)) (h2 : b z1 = some (y, z1)) (h3 : f x y z1 = some (.bl p)) (h4 : p = true → c z1 = some (w, z1)) (h5 : p = true → g y w z1 = some (.bl q)) : E.chain f g a b c z = some (.bl (p && q), z1) := by
  unfold E.chain
  rw [bnd_of h1, bnd_of h2, h3]
  cases p with
  | true =>
    dsimp only
    rw [bnd_of (h4 rfl), h5 rfl]
    rfl
  | false => rfl
theorem ev_iteT (h1 : t z = some (true, z1)) {r : Option (D × Z)} (h2 : a z1 = r) : E.ite t a b z = r := by
  unfold E.ite
  rw [bnd_of h1]
  exact h2
theorem ev_iteF (h1 : t z = some (false, z1)) {r : Option (D × Z)} (h2 : b z1 = r) : E.ite t a b z = r := by
  unfold E.ite
  rw [bnd_of h1]
  exact h2
theorem tv (h1 : a z = some (.bl p, z1)) : T.val a z = some (p, z1) := by
  unfold T.val
  rw [bnd_of h1]
  rfl
theorem tt_tru (h1 : a z = some (x, z1)) (h2 : O.tru x z1 = some p) : T.tru a z = some (p, z1) := by
  unfold T.tru
  rw [bnd_of h1, h2]
theorem tt_and (h1 : t z = some (p, z)) (h2 : p = true → u z = some (q, z)) : T.and t u z = some (p && q, z) := by
  unfold T.and
  rw [bnd_of h1]
  cases p with
  | true => exact h2 rfl
  | false => rfl
theorem tt_or (h1 : t z = some (p, z)) (h2 : p = false → u z = some (q, z)) : T.or t u z = some (p || q, z) := by
  unfold T.or
  rw [bnd_of h1]
  cases p with
  | false => exact h2 rfl
  | true => rfl
theorem tt_not (h1 : t z = some (p, z1)) : T.not t z = some (!p, z1) := by
  unfold T.not
  rw [bnd_of h1]
  rfl
theorem ev_ofSeq {tt : Bool} {ds : List D} (h1 : a z = some (x, z1)) (h2 : cont x z1 = some (tt, ds)) : N.ofSeq a z = some (ds, z1) := by
  unfold N.ofSeq
  rw [bnd_of h1, h2]
theorem ev_part0 : N.part none z = some (none, z) := rfl
theorem ev_part (h1 : a z = some (.int i, z1)) : N.part (some a) z = some (some i, z1) := by
  show bnd a _ z = _
  rw [bnd_of h1]
  rfl
theorem ev_slice {lo hi : Option (M D)} {l u : Option Int} {ds : List D} (h1 : a z = some (x, z1)) (h2 : N.part lo z1 = some (l, z2)) (h3 : N.part hi z2 = some (u, z3)) (h4 : cont x z3 = some (false, ds)) : N.slice a lo hi z = some (N.cutL ds l u, z3) := by
  unfold N.slice
  rw [bnd_of h1, bnd_of h2, bnd_of h3, h4]
theorem ev_cat {ds es : List D} (h1 : a z = some (x, z1)) (h2 : b z1 = some (y, z2)) (h3 : cont x z2 = some (false, ds)) (h4 : cont y z2 = some (false, es)) (hx : noScr x = true) (hy : noScr y = true) (hl : ds.length + es.length < szl) : N.cat a b z = some (ds ++ es, z2) := by
  unfold N.cat
  rw [bnd_of h1, bnd_of h2]
  try dsimp only
  split
  · cases hx
  · cases hy
  · rw [h3, h4]
    dsimp only
    rw [if_pos hl]
theorem ev_chgO {f : List D → List D → Option (D × List D)} {as : List (M D)} {xs ds ds0 ds' : List D} {n : Nat} (h1 : a z = some (.own n, z1)) (h0 : z1.s[n]? = some (.own (.lst ds0))) (h2 : E.args as z1 = some (xs, ⟨s, h⟩)) (h3 : s[n]? = some (.own (.lst ds))) (h4 : f ds xs = some (d, ds')) : E.chg f a as z = some (d, ⟨s.set n (.own (.lst ds')), h⟩) := by
  unfold E.chg
  rw [bnd_of h1]
  have hi : E.isLst (.own n) z1 = true := by
    show (cont (.own n) z1).isSome = true
    show (match z1.s[n]? with | some (.own (.lst xs)) => some (false, xs) | _ => none).isSome = true
    rw [h0]
    rfl
  try dsimp only
  rw [if_pos hi, bnd_of h2]
  show (match s[n]? with
    | some (.own (.lst ds)) => match f ds xs with
      | none => none
      | some (d, ds') => some (d, (⟨s.set n (.own (.lst ds')), h⟩ : Z))
    | _ => none) = _
  rw [h3]
  dsimp only
  rw [h4]
theorem ev_chgR {f : List D → List D → Option (D × List D)} {as : List (M D)} {xs ds ds0 ds' : List D} {n : Nat} (h1 : a z = some (.ref n, z1)) (h0 : z1.h[n]? = some (.lst ds0)) (h2 : E.args as z1 = some (xs, ⟨s, h⟩)) (h3 : h[n]? = some (.lst ds)) (h4 : f ds xs = some (d, ds')) : E.chg f a as z = some (d, ⟨s, h.set n (.lst ds')⟩) := by
  unfold E.chg
  rw [bnd_of h1]
  have hi : E.isLst (.ref n) z1 = true := by
    show (match z1.h[n]? with | some (.lst xs) => some (false, xs) | _ => none).isSome = true
    rw [h0]
    rfl
  try dsimp only
  rw [if_pos hi, bnd_of h2]
  show (match h[n]? with
    | some (.lst ds) => match f ds xs with
      | none => none
      | some (d, ds') => some (d, (⟨s, h.set n (.lst ds')⟩ : Z))
    | _ => none) = _
  rw [h3]
  dsimp only
  rw [h4]
theorem ixN0 {n : Nat} : ixN (n + 1) 0 = some 0 := by
  unfold ixN
  rw [if_pos (by decide), if_pos (by omega)]
  rfl
theorem popAt0 {ds : List D} : U.popAt (x :: ds) [.int 0] = some (x, ds) := by
  show (if -(2 ^ 63) ≤ (0 : Int) ∧ (0 : Int) < 2 ^ 63 then match ixN (ds.length + 1) 0 with
    | some k => match (x :: ds)[k]? with
      | some d => some (d, (x :: ds).eraseIdx k)
      | none => none
    | none => none else none) = _
  rw [if_pos (by decide), ixN0]
  rfl
theorem setAt0 {ds : List D} : U.setAt (x :: ds) 0 y = some (y :: ds) := by
  show (ixN (ds.length + 1) 0).map _ = _
  rw [ixN0]
  rfl
variable {ca cb : C} {f : Fl} {r : Option (Fl × Z)}
theorem cs_skip : C.skip z = some (.nx, z) := rfl
theorem cs_nx (h1 : ca z = some (.nx, z1)) (h2 : cb z1 = r) : C.seq ca cb z = r := by
  unfold C.seq
  rw [h1]
  exact h2
theorem cs_rt (h1 : ca z = some (.rt d, z1)) : C.seq ca cb z = some (.rt d, z1) := by
  unfold C.seq
  rw [h1]
theorem cs_ct (h1 : ca z = some (.ct, z1)) : C.seq ca cb z = some (.ct, z1) := by
  unfold C.seq
  rw [h1]
theorem cs_bk (h1 : ca z = some (.bk, z1)) : C.seq ca cb z = some (.bk, z1) := by
  unfold C.seq
  rw [h1]
theorem cs_set {n : Nat} (h1 : a z = some (d, ⟨s, h⟩)) (hp : isPure d = true) : C.set n a z = some (.nx, ⟨s.set n (.val d), h⟩) := by
  unfold C.set
  rw [bnd_of h1]
  exact if_pos hp
theorem cs_own {n : Nat} {m : M (List D)} {ds : List D} (h1 : m z = some (ds, ⟨s, h⟩)) (hn : n < s.length) : C.own n m z = some (.nx, ⟨s.set n (.own (.lst ds)), h⟩) := by
  unfold C.own
  rw [bnd_of h1]
  exact if_pos hn
theorem cs_frz {n : Nat} {ds : List D} (h1 : s[n]? = some (.own (.lst ds))) : C.frz n ⟨s, h⟩ = some (.nx, ⟨s.set n (.val (.lst ds)), h⟩) := by
  unfold C.frz
  rw [h1]
theorem cs_drop (h1 : a z = some (d, z1)) : C.drop a z = some (.nx, z1) := by
  unfold C.drop
  rw [bnd_of h1]
theorem cs_ret (h1 : a z = some (d, z1)) (hp : isPure d = true) : C.ret a z = some (.rt d, z1) := by
  unfold C.ret
  rw [bnd_of h1]
  cases d <;> first | rfl | cases hp
theorem cs_iteT (h1 : t z = some (true, z1)) (h2 : ca z1 = r) : C.ite t ca cb z = r := by
  unfold C.ite
  rw [bnd_of h1]
  exact h2
theorem cs_iteF (h1 : t z = some (false, z1)) (h2 : cb z1 = r) : C.ite t ca cb z = r := by
  unfold C.ite
  rw [bnd_of h1]
  exact h2
theorem cs_asg {g : G} (h1 : a z = some (d, z1)) (hp : isPure d = true) (h2 : g.run d z1 = some z2) : C.asg g a z = some (.nx, z2) := by
  unfold C.asg
  rw [bnd_of h1]
  try dsimp only
  rw [if_pos hp, h2]
theorem cs_aug {n : Nat} {g : D → D → Z → Option D} (h1 : z.s[n]? = some (.val x)) (h2 : a z = some (y, ⟨s, h⟩)) (h3 : g x y ⟨s, h⟩ = some d) (hp : isPure d = true) : C.aug n g a z = some (.nx, ⟨s.set n (.val d), h⟩) := by
  unfold C.aug
  rw [h1]
  dsimp only
  rw [bnd_of h2, h3]
  exact if_pos hp
theorem cs_setIxO {n : Nat} {ds ds' : List D} (h1 : c z = some (d, z1)) (h2 : a z1 = some (.own n, z2)) (h3 : b z2 = some (.int i, ⟨s, h⟩)) (hp : isPure d = true) (h4 : s[n]? = some (.own (.lst ds))) (h5 : U.setAt ds i d = some ds') : C.setIx a b c z = some (.nx, ⟨s.set n (.own (.lst ds')), h⟩) := by
  unfold C.setIx
  rw [bnd_of h1, bnd_of h2, bnd_of h3, if_pos hp]
  show (match s[n]? with
      | some (.own (.lst ds)) => match U.setAt ds i d with
        | some ds' => some (Fl.nx, (⟨s.set n (.own (.lst ds')), h⟩ : Z))
        | none => none
      | _ => none) = _
  rw [h4]
  dsimp only
  rw [h5]
theorem cs_setIxR {n : Nat} {ds ds' : List D} (h1 : c z = some (d, z1)) (h2 : a z1 = some (.ref n, z2)) (h3 : b z2 = some (.int i, ⟨s, h⟩)) (hp : isPure d = true) (h4 : h[n]? = some (.lst ds)) (h5 : U.setAt ds i d = some ds') : C.setIx a b c z = some (.nx, ⟨s, h.set n (.lst ds')⟩) := by
  unfold C.setIx
  rw [bnd_of h1, bnd_of h2, bnd_of h3, if_pos hp]
  show (match h[n]? with
      | some (.lst ds) => match U.setAt ds i d with
        | some ds' => some (Fl.nx, (⟨s, h.set n (.lst ds')⟩ : Z))
        | none => none
      | _ => none) = _
  rw [h4]
  dsimp only
  rw [h5]
theorem cs_setN {n : Nat} {s' : List Sl} (h1 : a z = some (d, ⟨s, h⟩)) (hp : isPure d = true) (hs : s.set n (.val d) = s') : C.set n a z = some (.nx, ⟨s', h⟩) := by
  subst hs
  exact cs_set h1 hp
theorem cs_ownN {n : Nat} {m : M (List D)} {ds : List D} {s' : List Sl} (h1 : m z = some (ds, ⟨s, h⟩)) (hn : n < s.length) (hs : s.set n (.own (.lst ds)) = s') : C.own n m z = some (.nx, ⟨s', h⟩) := by
  subst hs
  exact cs_own h1 hn
theorem cs_frzN {n : Nat} {ds : List D} {s' : List Sl} (h1 : s[n]? = some (.own (.lst ds))) (hs : s.set n (.val (.lst ds)) = s') : C.frz n ⟨s, h⟩ = some (.nx, ⟨s', h⟩) := by
  subst hs
  exact cs_frz h1
theorem cs_augN {n : Nat} {g : D → D → Z → Option D} {s' : List Sl} (h1 : z.s[n]? = some (.val x)) (h2 : a z = some (y, ⟨s, h⟩)) (h3 : g x y ⟨s, h⟩ = some d) (hp : isPure d = true) (hs : s.set n (.val d) = s') : C.aug n g a z = some (.nx, ⟨s', h⟩) := by
  subst hs
  exact cs_aug h1 h2 h3 hp
theorem cs_setIxN {n : Nat} {ds ds' : List D} {s' : List Sl} (h1 : c z = some (d, z1)) (h2 : a z1 = some (.own n, z2)) (h3 : b z2 = some (.int i, ⟨s, h⟩)) (hp : isPure d = true) (h4 : s[n]? = some (.own (.lst ds))) (h5 : U.setAt ds i d = some ds') (hs : s.set n (.own (.lst ds')) = s') : C.setIx a b c z = some (.nx, ⟨s', h⟩) := by
  subst hs
  exact cs_setIxO h1 h2 h3 hp h4 h5
theorem ev_chgN {f : List D → List D → Option (D × List D)} {as : List (M D)} {xs ds ds0 ds' : List D} {n : Nat} {s' : List Sl} (h1 : a z = some (.own n, z1)) (h0 : z1.s[n]? = some (.own (.lst ds0))) (h2 : E.args as z1 = some (xs, ⟨s, h⟩)) (h3 : s[n]? = some (.own (.lst ds))) (h4 : f ds xs = some (d, ds')) (hs : s.set n (.own (.lst ds')) = s') : E.chg f a as z = some (d, ⟨s', h⟩) := by
  subst hs
  exact ev_chgO h1 h0 h2 h3 h4
theorem fn_rt {n k : Nat} {ds : List D} (hl : ds.length = k) (h1 : ca ⟨slots n ds, h⟩ = some (.rt d, z)) : fn n k ca ds h = some (d, z.h) := by
  unfold fn
  rw [if_pos hl, h1]
theorem fn_rtH {n k : Nat} {ds : List D} (hl : ds.length = k) (h1 : ca ⟨slots n ds, h⟩ = some (.rt d, ⟨s, h'⟩)) : fn n k ca ds h = some (d, h') := fn_rt hl h1
end
/-- a body that ends with a value -/
def Ends (c : C) (z : Z) (d : D) : Prop := ∃ z', c z = some (.rt d, z')
theorem Ends.nx {a b : C} {z z1 : Z} {d : D} (h1 : a z = some (.nx, z1)) (h2 : Ends b z1 d) : Ends (C.seq a b) z d := by
  obtain ⟨z', h⟩ := h2
  exact ⟨z', cs_nx h1 h⟩
theorem Ends.one {a : C} {z z1 : Z} {d : D} (h1 : a z = some (.rt d, z1)) : Ends a z d := ⟨z1, h1⟩
theorem Ends.fn {b : C} {n k : Nat} {ds h : List D} {d : D} (hl : ds.length = k) (h1 : Ends b ⟨slots n ds, h⟩ d) : ∃ h', fn n k b ds h = some (d, h') := by
  obtain ⟨z', h⟩ := h1
  exact ⟨_, fn_rt hl h⟩
section
variable {it : It} {g : G} {b : C} {z z1 z2 : Z} {mi : M It}
theorem cs_for (h1 : mi z = some (it, z1)) {r : Option (Fl × Z)} (h2 : C.loop it g b it.items z1 = r) : C.for_ mi g b z = r := by
  unfold C.for_
  rw [bnd_of h1]
  exact h2
theorem whl_f {t : M Bool} (h1 : t z = some (false, z1)) : C.whl t b z = some (.nx, z1) := by
  rw [C.whl, h1]
theorem whl_t {t : M Bool} {r : Option (Fl × Z)} (h1 : t z = some (true, z1)) (h2 : b z1 = some (.nx, z2)) (h3 : C.whl t b z2 = r) : C.whl t b z = r := by
  rw [C.whl, h1]
  dsimp only
  rw [h2]
  exact h3
theorem whl_rt {t : M Bool} {d : D} (h1 : t z = some (true, z1)) (h2 : b z1 = some (.rt d, z2)) : C.whl t b z = some (.rt d, z2) := by
  rw [C.whl, h1]
  dsimp only
  rw [h2]
theorem whl_bk {t : M Bool} (h1 : t z = some (true, z1)) (h2 : b z1 = some (.bk, z2)) : C.whl t b z = some (.nx, z2) := by
  rw [C.whl, h1]
  dsimp only
  rw [h2]
theorem loop_nil (hk : it.chk = none) : C.loop it g b [] z = some (.nx, z) := by
  have : it.ok z = true := by unfold It.ok; rw [hk]
  unfold C.loop
  exact if_pos this
theorem loop_cons {d : D} {ds : List D} {f : Fl} {r : Option (Fl × Z)} (hk : it.chk = none) (h1 : g.run d z = some z1) (h2 : b z1 = some (f, z2)) (h3 : (match f with | .nx => C.loop it g b ds z2 | .ct => C.loop it g b ds z2 | .bk => some (.nx, z2) | .rt d => some (.rt d, z2)) = r) : C.loop it g b (d :: ds) z = r := by
  have : it.ok z = true := by unfold It.ok; rw [hk]
  unfold C.loop
  rw [if_pos this, h1]
  dsimp only
  rw [h2, ← h3]
  cases f <;> rfl
theorem ev_seq {a : M D} {x : D} {xs : List D} (h1 : a z = some (x, z1)) (h2 : itemsOf x = some xs) : I.seq a z = some (⟨xs, none⟩, z1) := by
  unfold I.seq
  rw [bnd_of h1]
  cases x <;> first | (cases h2; rfl) | cases h2
theorem ev_seqC {a : M D} {x : D} {xs : List D} (h1 : a z = some (x, z1)) (h2 : itemsOf x = some xs) : I.seqC a z = some (⟨xs, none⟩, z1) := by
  unfold I.seqC
  rw [bnd_of h1]
  cases x <;> first | (cases h2; rfl) | cases h2
theorem ev_rng1 {a : M D} {n : Int} (h1 : a z = some (.int n, z1)) (h2 : -(2 ^ 62) ≤ n ∧ n < 2 ^ 62) : I.rng1 a z = some (⟨I.irng 0 n.toNat, none⟩, z1) := by
  unfold I.rng1
  rw [bnd_of h1]
  dsimp only
  rw [if_pos h2]
  rfl
theorem ev_rng2 {a b : M D} {i j : Int} (h1 : a z = some (.int i, z1)) (h3 : b z1 = some (.int j, z2)) (h2 : (-(2 ^ 62) ≤ i ∧ i < 2 ^ 62) ∧ -(2 ^ 62) ≤ j ∧ j < 2 ^ 62) : I.rng2 a b z = some (⟨I.irng i (j - i).toNat, none⟩, z2) := by
  unfold I.rng2
  rw [bnd_of h1, bnd_of h3]
  dsimp only
  rw [if_pos h2]
  rfl
/-- a comprehension whose items and elements change nothing: item by item -/
theorem comp_loop {it : It} {g : G} {vs : List Nat} {tt : M Bool} {te : M D} (hk : it.chk = none) (fl : D → Bool) (fe : D → D) (w : Z) (step : ∀ d, d ∈ it.items → ∃ z1 z2 z3, g.run d w = some z1 ∧ tt z1 = some (fl d, z2) ∧ (fl d = true → te z2 = some (fe d, z3) ∧ isPure (fe d) = true) ∧ (fl d = true → (⟨N.wipe z3.s vs, z3.h⟩ : Z) = w) ∧ (fl d = false → (⟨N.wipe z2.s vs, z2.h⟩ : Z) = w)) :
    ∀ (ds : List D) (acc : List D), (∀ d ∈ ds, d ∈ it.items) → N.loop it g vs tt te ds acc w = some (acc ++ (ds.filter fl).map fe, w)
  | [], acc, _ => by
    have : it.ok w = true := by unfold It.ok; rw [hk]
    unfold N.loop
    rw [if_pos this]
    simp
  | d :: ds, acc, hm => by
    have ok : it.ok w = true := by unfold It.ok; rw [hk]
    obtain ⟨z1, z2, z3, h1, h2, h3, h4, h5⟩ := step d (hm d List.mem_cons_self)
    have ih := fun acc => comp_loop hk fl fe w step ds acc fun x hx => hm x (List.mem_cons_of_mem _ hx)
    unfold N.loop
    rw [if_pos ok, h1]
    dsimp only
    rw [h2]
    cases hf : fl d with
    | true =>
      obtain ⟨h6, h7⟩ := h3 hf
      dsimp only
      rw [h6]
      dsimp only
      rw [if_pos h7, h4 hf, ih]
      simp [List.filter_cons, hf]
    | false =>
      dsimp only
      rw [h5 hf, ih]
      simp [List.filter_cons, hf]
/-- .. one by one -/
theorem nl_nil {it : It} {g : G} {vs : List Nat} {tt : M Bool} {te : M D} {acc : List D} (ok : it.ok z = true) : N.loop it g vs tt te [] acc z = some (acc, z) := by
  unfold N.loop
  rw [if_pos ok]
theorem nl_t {it : It} {g : G} {vs : List Nat} {tt : M Bool} {te : M D} {acc ds : List D} {d x : D} {z1 z2 z3 : Z} {r : Option (List D × Z)} (ok : it.ok z = true) (h1 : g.run d z = some z1) (h2 : tt z1 = some (true, z2)) (h3 : te z2 = some (x, z3)) (hp : isPure x = true) (h4 : N.loop it g vs tt te ds (acc ++ [x]) ⟨N.wipe z3.s vs, z3.h⟩ = r) : N.loop it g vs tt te (d :: ds) acc z = r := by
  unfold N.loop
  rw [if_pos ok, h1]
  dsimp only
  rw [h2]
  dsimp only
  rw [h3]
  dsimp only
  rw [if_pos hp]
  exact h4
theorem nl_tN {it : It} {g : G} {vs : List Nat} {tt : M Bool} {te : M D} {acc acc' ds : List D} {d x : D} {z1 z2 : Z} {s3 s4 : List Sl} {h3 : List D} {r : Option (List D × Z)} (ok : it.ok z = true) (h1 : g.run d z = some z1) (h2 : tt z1 = some (true, z2)) (h3' : te z2 = some (x, ⟨s3, h3⟩)) (hp : isPure x = true) (hw : N.wipe s3 vs = s4) (ha : acc ++ [x] = acc') (h4 : N.loop it g vs tt te ds acc' ⟨s4, h3⟩ = r) : N.loop it g vs tt te (d :: ds) acc z = r := by
  subst hw
  subst ha
  exact nl_t ok h1 h2 h3' hp h4
theorem ev_compN {mi : M It} {it : It} {g : G} {vs : List Nat} {tt : M Bool} {te : M D} {r : List D} {s1 s2 s3 s4 : List Sl} {h1' h2' : List D} (h1 : mi z = some (it, ⟨s1, h1'⟩)) (h2 : it.items.length ≤ szl) (h3 : (vs.all fun v => !N.isOwn s1[v]?) = true) (hw : N.wipe s1 vs = s3) (h4 : N.loop it g vs tt te it.items [] ⟨s3, h1'⟩ = some (r, ⟨s2, h2'⟩)) (hr : N.rest s1 s2 vs = s4) : N.comp mi g vs tt te z = some (r, ⟨s4, h2'⟩) := by
  subst hw hr
  unfold N.comp
  rw [bnd_of h1]
  dsimp only
  rw [if_pos ⟨h2, h3⟩, h4]
theorem ev_true {α : Type} {x : α} : Mi.ret x z = some (x, z) := rfl
/-- .. in all, where the names of the block are set anew each time -/
theorem ev_comp {mi : M It} {it : It} {g : G} {vs : List Nat} {tt : M Bool} {te : M D} {r : List D} {z1 z2 : Z} (h1 : mi z = some (it, z1)) (h2 : it.items.length ≤ szl) (h3 : (vs.all fun v => !N.isOwn z1.s[v]?) = true) (h4 : N.loop it g vs tt te it.items [] ⟨N.wipe z1.s vs, z1.h⟩ = some (r, z2)) : N.comp mi g vs tt te z = some (r, ⟨N.rest z1.s z2.s vs, z2.h⟩) := by
  unfold N.comp
  rw [bnd_of h1]
  try dsimp only
  rw [if_pos ⟨h2, h3⟩, h4]
end
end Mi
set_option Elab.async false
set_option linter.all false
set_option maxRecDepth 100000
namespace Mi
open PySem PySem.Spec PyProof.Rows L2
section
variable {x d : D} {z z' : Z} {i j : Int}
theorem lf_cont {r : Option (Bool × List D)} (h : cont x z = r) : cont x z = r := h
theorem lf_atI {ds : List D} {r : Option D} (h : atI ds i = r) : atI ds i = r := h
theorem lf_get {α : Type} {xs : List α} {n : Nat} {r : Option α} (h : xs[n]? = r) : xs[n]? = r := h
theorem lf_pure {r : Bool} (h : isPure d = r) : isPure d = r := h
theorem lf_setAt {ds : List D} {r : Option (List D)} (h : U.setAt ds i d = r) : U.setAt ds i d = r := h
theorem lf_tru {r : Option Bool} (h : O.tru d z = r) : O.tru d z = r := h
theorem lf_lt {n m : Nat} (h : n < m) : n < m := h
theorem lf_pos {i : Int} (h : 0 < i) : 0 < i := h
theorem lf_le {n m : Nat} (h : n ≤ m) : n ≤ m := h
theorem lf_isNm {b : Bool} (h : isNon x = b) : isNon x = b := h
theorem lf_notNm {b : Bool} (h : (!isNon x) = b) : (!isNon x) = b := h
theorem lf_noScr {b : Bool} (h : noScr x = b) : noScr x = b := h
theorem atI_zero {xs : List D} : atI (x :: xs) 0 = some x := atI_nat (j := 0) rfl
theorem lf_abs : F.abs [.int i] z = some (.int (if i < 0 then -i else i)) := rfl
theorem lf_int1 : F.int1 [.int i] z = some (.int i) := rfl
theorem lf_max2 : F.max2 [.int i, .int j] z = some (.int (if j > i then j else i)) := rfl
theorem lf_min2 : F.min2 [.int i, .int j] z = some (.int (if j < i then j else i)) := rfl
theorem lf_len {t : Bool} {ds : List D} (h : cont x z = some (t, ds)) : F.len [x] z = some (.int ds.length) := by
  show (match cont x z with | some (_, ds) => some (D.int ds.length) | none => none) = _
  rw [h]
def noKt : D → Bool
  | .kt _ => false
  | _ => true
theorem lf_noKt {b : Bool} (h : noKt x = b) : noKt x = b := h
theorem lf_tuple {t : Bool} {ds : List D} (h : cont x z = some (t, ds)) (hk : noKt x = true) : F.tuple [x] z = some (.tup ds) := by
  have e : F.tuple [x] z = (match cont x z with | some (_, ds) => some (D.tup ds) | none => none) := by
    cases x <;> first | rfl | cases hk
  rw [e, h]
theorem lf_isi {T t : String} {b : Bool} (h : F.tyName x z = some t) (h2 : kitB t T = some b) : F.isi T x z = some (.bl b) := by
  unfold F.isi
  rw [h]
  dsimp only
  rw [h2]
  rfl
theorem lf_isiK {t T : String} {r : Option Bool} (h : kitB t T = r) : kitB t T = r := h
theorem lf_ty {r : Option String} (h : F.tyName x z = r) : F.tyName x z = r := h
theorem lf_set {s s' : List Sl} {n : Nat} {x : Sl} (h : s.set n x = s') : s.set n x = s' := h
theorem lf_slots {n : Nat} {ds : List D} {s' : List Sl} (h : slots n ds = s') : slots n ds = s' := h
theorem lf_wipe {s s' : List Sl} {vs : List Nat} (h : N.wipe s vs = s') : N.wipe s vs = s' := h
theorem lf_rest {s0 s s' : List Sl} {vs : List Nat} (h : N.rest s0 s vs = s') : N.rest s0 s vs = s' := h
theorem lf_run {g : G} {r : Option Z} (h : g.run d z = r) : g.run d z = r := h
theorem lf_len0 {ds : List D} {n : Nat} (h : ds.length = n) : ds.length = n := h
theorem lf_nl {it : It} {g : G} {vs : List Nat} {tt : M Bool} {te : M D} {ds acc : List D} {z : Z} {r : Option (List D × Z)} (h : N.loop it g vs tt te ds acc z = r) : N.loop it g vs tt te ds acc z = r := h
theorem lf_smn {n : Nat} {i : Int} (h : Smn n i) : Smn n i := h
theorem lf_ok {it : It} {r : Bool} (h : it.ok z = r) : it.ok z = r := h
theorem lf_itm {r : Option (List D)} (h : itemsOf d = r) : itemsOf d = r := h
theorem lf_bd {n : Int} (h : -(2 ^ 62) ≤ n ∧ n < 2 ^ 62) : -(2 ^ 62) ≤ n ∧ n < 2 ^ 62 := h
theorem lf_allO {vs : List Nat} {s : List Sl} {r : Bool} (h : (vs.all fun v => !N.isOwn s[v]?) = r) : (vs.all fun v => !N.isOwn s[v]?) = r := h
theorem gr_nm {n : Nat} {s s' : List Sl} {h : List D} (e : s.set n (.val d) = s') : (G.nm n).run d ⟨s, h⟩ = some ⟨s', h⟩ := by subst e; rfl
theorem gr_nil {z : Z} : G.runs [] [] z = some z := rfl
theorem gr_cons {g : G} {gs : List G} {ds : List D} {z z1 : Z} {r : Option Z} (e : g.run d z = some z1) (e2 : G.runs gs ds z1 = r) : G.runs (g :: gs) (d :: ds) z = r := by
  show (match g.run d z with | none => none | some z1 => G.runs gs ds z1) = r
  rw [e]; exact e2
theorem gr_tp {gs : List G} {ds : List D} {z : Z} {r : Option Z} (e : G.runs gs ds z = r) : (G.tp gs).run (.tup ds) z = r := e
theorem gr_tl {gs : List G} {ds : List D} {z : Z} {r : Option Z} (e : G.runs gs ds z = r) : (G.tl gs).run (.lst ds) z = r := e
theorem sl_z {a y : Sl} {s : List Sl} : (a :: s).set 0 y = y :: s := rfl
theorem sl_s {a y : Sl} {s s' : List Sl} {n : Nat} (e : s.set n y = s') : (a :: s).set (n + 1) y = a :: s' := by subst e; rfl
theorem sw_nil {s : List Sl} : N.wipe s [] = s := rfl
theorem sw_cons {s s1 s2 : List Sl} {v : Nat} {vs : List Nat} (e : N.wipe s vs = s1) (e2 : s1.set v .no = s2) : N.wipe s (v :: vs) = s2 := by subst e; exact e2
theorem sr_nil {s0 s : List Sl} : N.rest s0 s [] = s := rfl
theorem sr_cons {s0 s s1 s2 : List Sl} {x : Sl} {v : Nat} {vs : List Nat} (e0 : s0[v]? = some x) (e : N.rest s0 s vs = s1) (e2 : s1.set v x = s2) : N.rest s0 s (v :: vs) = s2 := by
  subst e
  show (match s0[v]? with | some x => (N.rest s0 s vs).set v x | none => N.rest s0 s vs) = s2
  rw [e0]; exact e2
theorem ss_nil {n : Nat} {s' : List Sl} (e : List.replicate n Sl.no = s') : slots n [] = s' := by rw [← e]; rfl
theorem ss_cons {n : Nat} {d : D} {ds : List D} {s' : List Sl} (e : slots n ds = s') : slots (n + 1) (d :: ds) = .val d :: s' := by
  rw [← e]; unfold slots; simp
theorem se_nil : List.replicate 0 Sl.no = [] := rfl
theorem se_cons {n : Nat} {s' : List Sl} (e : List.replicate n Sl.no = s') : List.replicate (n + 1) Sl.no = .no :: s' := by rw [← e]; rfl
theorem la_nil {x : D} : ([] : List D) ++ [x] = [x] := rfl
theorem la_cons {x a : D} {l l' : List D} (e : l ++ [x] = l') : (a :: l) ++ [x] = a :: l' := by subst e; rfl
theorem lf_app {x : D} {l l' : List D} (h : l ++ [x] = l') : l ++ [x] = l' := h
theorem kb_tt : kitB "tuple" "tuple" = some true := by with_unfolding_all decide
theorem kb_bb : kitB "bool" "bool" = some true := by with_unfolding_all decide
theorem kb_ii : kitB "int" "int" = some true := by with_unfolding_all decide
theorem kb_it : kitB "int" "tuple" = some false := by with_unfolding_all decide
theorem kb_ib : kitB "int" "bool" = some false := by with_unfolding_all decide
theorem kb_bi : kitB "bool" "int" = some true := by with_unfolding_all decide
theorem kb_ll : kitB "list" "list" = some true := by with_unfolding_all decide
theorem kb_ss : kitB "str" "str" = some true := by with_unfolding_all decide
theorem eqP_t3 {a0 a1 a2 b0 b1 b2 : Int} {z : Z} : O.eqP (.tup [.int a0, .int a1, .int a2]) (.tup [.int b0, .int b1, .int b2]) z = some (decide (a0 = b0) && (decide (a1 = b1) && decide (a2 = b2))) := by
  show some ((a0 == b0) && ((a1 == b1) && ((a2 == b2) && true))) = some _
  simp only [Bool.beq_eq_decide_eq, Bool.and_true]
theorem eqP_t2 {a0 a1 b0 b1 : Int} {z : Z} : O.eqP (.tup [.int a0, .int a1]) (.tup [.int b0, .int b1]) z = some (decide (a0 = b0) && decide (a1 = b1)) := by
  show some ((a0 == b0) && ((a1 == b1) && true)) = some _
  simp only [Bool.beq_eq_decide_eq, Bool.and_true]
theorem eqP_bl {a b : Bool} {z : Z} : O.eqP (.bl a) (.bl b) z = some (decide (a = b)) := by cases a <;> cases b <;> rfl
end
local macro_rules | `(tactic| wtm_at "leaf") => `(tactic| first
  | ((with_reducible apply lf_cont); rfl)
  | (with_reducible exact atI_zero)
  | ((with_reducible apply lf_dcont); rfl)
  | ((with_reducible apply lf_dcS); rfl)
  | ((with_reducible apply lf_dgetC); rfl)
  | ((with_reducible apply lf_keyD); rfl)
  | ((with_reducible apply lf_isDict); rfl)
  | ((with_reducible apply lf_dkeys); rfl)
  | ((with_reducible apply lf_atI); first | rfl | exact atI_zero)
  | ((with_reducible apply lf_get); rfl)
  | ((with_reducible apply lf_pure); rfl)
  | ((with_reducible apply lf_setAt); rfl)
  | ((with_reducible apply lf_tru); rfl)
  | ((with_reducible apply lf_lt); exact Nat.le_of_ble_eq_true rfl)
  | ((with_reducible apply lf_pos); first | assumption | decide | omega)
  | ((with_reducible apply lf_le); decide)
  | ((with_reducible apply lf_isNm); rfl)
  | ((with_reducible apply lf_notNm); rfl)
  | ((with_reducible apply lf_noScr); rfl)
  | ((with_reducible apply lf_noKt); rfl)
  | (with_reducible exact eqP_int)
  | (with_reducible exact lf_abs)
  | (with_reducible exact lf_int1)
  | (with_reducible exact lf_max2)
  | (with_reducible exact lf_min2)
  | (with_reducible apply lf_len)
  | (with_reducible apply lf_tuple)
  | (with_reducible apply lf_isi)
  | (with_reducible exact eqP_t3)
  | (with_reducible exact eqP_bl)
  | (with_reducible exact eqP_t2)
  | (with_reducible exact kb_tt)
  | (with_reducible exact kb_bb)
  | (with_reducible exact kb_ii)
  | (with_reducible exact kb_it)
  | (with_reducible exact kb_ib)
  | (with_reducible exact kb_bi)
  | (with_reducible exact kb_ll)
  | (with_reducible exact kb_ss)
  | ((with_reducible apply lf_isiK); with_unfolding_all decide)
  | ((with_reducible apply lf_ty); rfl)
  | ((with_reducible apply lf_bd); exact ⟨by decide, by decide⟩)
  | ((with_reducible apply lf_allO); rfl)
  | ((with_reducible apply lf_app); first | ((repeat (first | (with_reducible exact la_nil) | (with_reducible apply la_cons))); done) | rfl)
  | ((with_reducible apply lf_set); first | ((repeat (first | (with_reducible exact sl_z) | (with_reducible apply sl_s))); done) | rfl)
  | ((with_reducible apply lf_slots); first | ((repeat (first | (with_reducible exact se_nil) | (with_reducible apply se_cons) | (with_reducible apply ss_cons) | (with_reducible apply ss_nil))); done) | rfl)
  | (with_reducible exact sw_nil)
  | (with_reducible apply sw_cons)
  | ((with_reducible apply lf_wipe); rfl)
  | (with_reducible exact sr_nil)
  | (with_reducible apply sr_cons)
  | ((with_reducible apply lf_rest); rfl)
  | (with_reducible apply gr_nm)
  | (with_reducible exact gr_nil)
  | (with_reducible apply gr_cons)
  | (with_reducible apply gr_tp)
  | (with_reducible apply gr_tl)
  | ((with_reducible apply lf_run); first | (simp only [G.nm, G.tp, G.tl, G.runs, List.set_cons_succ, List.set_cons_zero]; done) | rfl)
  | ((with_reducible apply lf_len0); rfl)
  )
local macro_rules | `(tactic| wtm_at "sm") => `(tactic| first
  | ((with_reducible apply lf_smn); with_reducible assumption)
  | (with_reducible exact Smn.nat (by decide))
  | (with_reducible apply Smn.mul)
  | (with_reducible apply Smn.add)
  | (with_reducible apply Smn.sub)
  | (with_reducible apply Smn.neg)
  | (with_reducible apply Smn.ite)
  | (with_reducible apply Smn.div _ (by omega))
  | (with_reducible apply Smn.mod _ (by omega))
  | ((with_reducible refine Smn.of ?_); omega))
local macro_rules | `(tactic| wtm_at "nl") => `(tactic| first
  | (with_reducible apply ev_rng1)
  | (with_reducible apply ev_rng2)
  | (with_reducible apply nl_nil)
  | ((with_reducible apply lf_nl); first | apply nl_tN | apply nl_nil)
  | ((with_reducible apply lf_ok); rfl)
  | ((with_reducible apply lf_itm); rfl))
local macro_rules | `(tactic| wtm_at "e1") => `(tactic| first
  | (with_reducible intro _)
  | (with_reducible exact ev_c)
  | (with_reducible exact ev_args0)
  | (with_reducible exact ev_part0)
  | ((with_reducible apply ev_var); rfl)
  | ((with_reducible apply ev_varO); rfl)
  | (with_reducible apply ev_ix)
  | (with_reducible apply ev_dix)
  | (with_reducible apply ev_din)
  | (with_reducible apply ev_dnotIn)
  | (with_reducible apply ev_get1)
  | (with_reducible apply ev_get2)
  | (with_reducible apply ev_shrN)
  | (with_reducible apply ev_frzD)
  | (with_reducible exact ev_pairs0)
  | (with_reducible apply ev_pairs)
  | (with_reducible apply ev_dispK)
  | (with_reducible apply ev_sortedD)
  | (with_reducible apply ev_rev)
  | (with_reducible apply ev_cutT)
  | (with_reducible apply ev_catT)
  | (with_reducible apply ev_seqK)
  | (with_reducible apply ev_add)
  | (with_reducible apply ev_sub)
  | (with_reducible apply ev_mul)
  | (with_reducible apply ev_div)
  | (with_reducible apply ev_mod)
  | (with_reducible apply ev_neg)
  | (with_reducible apply ev_lt)
  | (with_reducible apply ev_le)
  | (with_reducible apply ev_gt)
  | (with_reducible apply ev_ge)
  | (with_reducible apply ev_eq)
  | (with_reducible apply ev_ne)
  | (with_reducible apply ev_isN)
  | (with_reducible apply ev_notN)
  | (with_reducible apply ev_args)
  | (with_reducible apply ev_tup)
  | (with_reducible apply ev_frz)
  | (with_reducible apply ev_shr)
  | (with_reducible apply ev_disp)
  | (with_reducible apply ev_blt1)
  | (with_reducible apply ev_blt2)
  | (with_reducible apply ev_un)
  | (with_reducible apply ev_and)
  | (with_reducible apply ev_or)
  | (with_reducible apply ev_not)
  | (with_reducible apply tv)
  | (with_reducible apply tt_tru)
  | (with_reducible apply tt_and)
  | (with_reducible apply tt_or)
  | (with_reducible apply tt_not)
  | (with_reducible apply ev_ofSeq)
  | (with_reducible apply ev_part)
  | (with_reducible apply ev_slice)
  | (with_reducible apply ev_compN)
  | (with_reducible exact ev_true)
  | wtm_at "nl"
  | (with_reducible apply ev_chain)
  | (with_reducible apply ev_call)
  | wtm_at "call"
  | wtm_at "leaf"
  | wtm_at "sm")
local macro_rules | `(tactic| wtm_at "ev") => `(tactic| repeat' wtm_at "e1")
local macro_rules | `(tactic| wtm_at "dec") => `(tactic| decide)
local macro_rules | `(tactic| wtm_at "s1") => `(tactic| first
  | (with_reducible exact cs_skip)
  | (with_reducible apply cs_setN)
  | (with_reducible apply cs_dputO)
  | (with_reducible apply cs_ownD)
  | (with_reducible apply cs_frzD)
  | (with_reducible apply cs_retD)
  | (with_reducible apply cs_ownN)
  | (with_reducible apply cs_frzN)
  | (with_reducible apply cs_augN)
  | (with_reducible apply ev_chgN)
  | (with_reducible apply cs_setIxN)
  | (with_reducible apply cs_drop)
  | (with_reducible apply cs_asg)
  | (with_reducible apply cs_ret)
  | wtm_at "e1")
local macro_rules | `(tactic| wtm_at "st") => `(tactic| repeat' wtm_at "s1")
local macro_rules | `(tactic| wtm_at "dz") => `(tactic| (with_reducible apply Dz.nx; · wtm_at "st"))
local macro_rules | `(tactic| wtm_at "di") => `(tactic| (with_reducible apply Dz.ite; · wtm_at "ev"))
structure DS where
  cells : List Int
  seed : Int
  ok : 0 ≤ seed ∧ seed ≤ 2147483647
def stH (s : DS) : List D := [.lst (s.cells.map D.int), .lst [.ref 0, .int s.seed]]
/-- .. more behind it -/
def stT (s : DS) (tl : List D) : List D := .lst (s.cells.map D.int) :: .lst [.ref 0, .int s.seed] :: tl
def dropZ : List Int → List Int
  | [] => []
  | c :: cs => if c = 0 then dropZ cs else c :: cs
def mixed (s : DS) : Int := (s.seed * 48271 + 12345) % 2147483647
theorem mixed_ok (s : DS) : 0 ≤ mixed s ∧ mixed s ≤ 2147483647 := by
  unfold mixed
  omega
def drawV (s : DS) (many : Int) : Int := match dropZ s.cells with
  | c :: _ => c % many
  | [] => (mixed s / 64) % many
def drawS (s : DS) (many : Int) : DS := match dropZ s.cells with
  | c :: cs => ⟨c / many :: cs, s.seed, s.ok⟩
  | [] => ⟨[], mixed s, mixed_ok s⟩
theorem drawV_nn (s : DS) {many : Int} (h : 0 < many) : 0 ≤ drawV s many := by
  unfold drawV
  split <;> exact Int.emod_nonneg _ (by omega)
theorem drawV_lt (s : DS) {many : Int} (h : 0 < many) : drawV s many < many := by
  unfold drawV
  split <;> exact Int.emod_lt_of_pos _ h
namespace Dr
noncomputable section
def lp_law_draw1 : C := (C.drop (E.chg U.popAt (E.var 2) [(E.c (.int 0))]))
@[reducible] def st_law_draw_1 : C := (C.set 2 (E.op O.ix (E.var 0) (E.c (.int 0))))
@[reducible] def st_law_draw_2 : C := (C.whl (T.and (T.val (E.op O.gt (E.blt F.len [(E.var 2)]) (E.c (.int 0)))) (T.val (E.op O.eq (E.op O.ix (E.var 2) (E.c (.int 0))) (E.c (.int 0))))) lp_law_draw1)
@[reducible] def st_law_draw_3 : C := (C.ite (T.val (E.op O.gt (E.blt F.len [(E.var 2)]) (E.c (.int 0)))) (C.seq (C.set 3 (E.op O.ix (E.var 2) (E.c (.int 0)))) (C.seq (C.setIx (E.var 2) (E.c (.int 0)) (E.op O.div (E.var 3) (E.var 1))) (C.ret (E.op O.mod (E.blt F.int1 [(E.var 3)]) (E.var 1))))) C.skip)
@[reducible] def st_law_draw_4 : C := (C.set 4 (E.op O.mod (E.blt F.int1 [(E.op O.add (E.op O.mul (E.op O.ix (E.var 0) (E.c (.int 1))) (E.c (.int 48271))) (E.c (.int 12345)))]) (E.c (.int 2147483647))))
@[reducible] def st_law_draw_5 : C := (C.setIx (E.var 0) (E.c (.int 1)) (E.var 4))
@[reducible] def st_law_draw_6 : C := (C.ret (E.op O.mod (E.blt F.int1 [(E.op O.div (E.var 4) (E.c (.int 64)))]) (E.var 1)))
def b_law_draw : C := (C.seq st_law_draw_1 (C.seq st_law_draw_2 (C.seq st_law_draw_3 (C.seq st_law_draw_4 (C.seq st_law_draw_5 st_law_draw_6)))))
def m_law_draw : Fn := fn 5 2 b_law_draw
end
theorem whl_test {tl : List D} (cs : List Int) (sl : List Sl) (X : D) (h2 : sl[2]? = some (.val (.ref 0))) (b : Bool) (hb : b = match cs with | [] => false | c :: _ => decide (c = 0)) : (T.and (T.val (E.op O.gt (E.blt F.len [(E.var 2)]) (E.c (.int 0)))) (T.val (E.op O.eq (E.op O.ix (E.var 2) (E.c (.int 0))) (E.c (.int 0))))) ⟨sl, (.lst (cs.map D.int) :: X :: tl)⟩ = some (b, ⟨sl, (.lst (cs.map D.int) :: X :: tl)⟩) := by
  have e1 : (T.val (E.op O.gt (E.blt F.len [(E.var 2)]) (E.c (.int 0)))) ⟨sl, (.lst (cs.map D.int) :: X :: tl)⟩ = some (decide ((0 : Int) < ((cs.map D.int).length : Nat)), ⟨sl, (.lst (cs.map D.int) :: X :: tl)⟩) :=
    tv (ev_gt (ev_blt1 (ev_var h2) (lf_len rfl)) ev_c)
  subst hb
  cases cs with
  | nil => exact tt_and (q := false) e1 fun h => nomatch h
  | cons c cs =>
    have e2 : (T.val (E.op O.eq (E.op O.ix (E.var 2) (E.c (.int 0))) (E.c (.int 0)))) ⟨sl, (.lst ((c :: cs).map D.int) :: X :: tl)⟩ = some (decide (c = 0), ⟨sl, (.lst ((c :: cs).map D.int) :: X :: tl)⟩) :=
      tv (ev_eq (ev_ix (ev_var h2) ev_c rfl atI_zero) ev_c eqP_int)
    have e3 := tt_and e1 fun _ => e2
    have e4 : decide ((0 : Int) < (((c :: cs).map D.int).length : Nat)) = true := decide_eq_true (by simp)
    rw [e4, Bool.true_and] at e3
    exact e3
theorem while_ev {tl : List D} (cs : List Int) (sl : List Sl) (X : D) (h2 : sl[2]? = some (.val (.ref 0))) : st_law_draw_2 ⟨sl, (.lst (cs.map D.int) :: X :: tl)⟩ = some (.nx, ⟨sl, (.lst ((dropZ cs).map D.int) :: X :: tl)⟩) := by
  induction cs with
  | nil => exact whl_f (whl_test _ _ _ h2 _ rfl)
  | cons c cs ih =>
    by_cases hc : c = 0
    · subst hc
      have e3 : lp_law_draw1 ⟨sl, (.lst ((0 :: cs).map D.int) :: X :: tl)⟩ = some (.nx, ⟨sl, (.lst (cs.map D.int) :: X :: tl)⟩) := by
        unfold lp_law_draw1
        exact cs_drop (ev_chgR (ev_var h2) rfl (ev_args ev_c ev_args0 rfl) rfl popAt0)
      exact whl_t (whl_test _ _ _ h2 true (decide_eq_true rfl).symm) e3 ih
    · have e : dropZ (c :: cs) = c :: cs := if_neg hc
      rw [e]
      exact whl_f (whl_test _ _ _ h2 false (decide_eq_false hc).symm)
theorem draw_evT (tl : List D) (s : DS) {many : Int} {m : Nat} (h : 0 < many) (hm : Smn m many) (hb : m ≤ bigN) : m_law_draw [.ref 1, .int many] (stT s tl) = some (.int (drawV s many), stT (drawS s many) tl) := by
  unfold m_law_draw stT
  have hs := s.ok
  have hseed : Smn 64 s.seed := Smn.of (by omega)
  unfold drawV drawS
  have e0 : b_law_draw ⟨slots 5 [.ref 1, .int many], (.lst (s.cells.map D.int) :: .lst [.ref 0, .int s.seed] :: tl)⟩ = (C.seq st_law_draw_3 (C.seq st_law_draw_4 (C.seq st_law_draw_5 st_law_draw_6))) ⟨[.val (.ref 1), .val (.int many), .val (.ref 0), .no, .no], (.lst ((dropZ s.cells).map D.int) :: .lst [.ref 0, .int s.seed] :: tl)⟩ := by
    unfold b_law_draw
    refine cs_nx (z1 := ⟨[.val (.ref 1), .val (.int many), .val (.ref 0), .no, .no], (.lst (s.cells.map D.int) :: .lst [.ref 0, .int s.seed] :: tl)⟩) ?_ (cs_nx (while_ev s.cells _ _ rfl) rfl)
    exact cs_set (ev_ix (ev_var rfl) ev_c rfl rfl) rfl
  cases hd : dropZ s.cells with
  | cons c cs =>
    apply fn_rtH rfl
    rw [e0, hd]
    have e1 : (T.val (E.op O.gt (E.blt F.len [(E.var 2)]) (E.c (.int 0)))) ⟨[.val (.ref 1), .val (.int many), .val (.ref 0), .no, .no], (.lst ((c :: cs).map D.int) :: .lst [.ref 0, .int s.seed] :: tl)⟩ = some (true, ⟨[.val (.ref 1), .val (.int many), .val (.ref 0), .no, .no], (.lst ((c :: cs).map D.int) :: .lst [.ref 0, .int s.seed] :: tl)⟩) := by
      have e4 : decide ((0 : Int) < (((c :: cs).map D.int).length : Nat)) = true := decide_eq_true (by simp)
      rw [← e4]
      exact tv (ev_gt (ev_blt1 (ev_var rfl) (lf_len rfl)) ev_c)
    refine cs_rt (cs_iteT e1 ?_)
    refine cs_nx (cs_set (ev_ix (ev_var rfl) ev_c rfl atI_zero) rfl) ?_
    refine cs_nx (cs_setIxR (ev_div (ev_var rfl) (ev_var rfl) h hm hb) (ev_var rfl) ev_c rfl rfl (ds' := (c / many :: cs).map D.int) setAt0) ?_
    exact cs_ret (ev_mod (ev_blt1 (ev_var rfl) lf_int1) (ev_var rfl) h) rfl
  | nil =>
    apply fn_rtH rfl
    rw [e0, hd]
    refine cs_nx (cs_iteF (tv (p := false) (by exact ev_gt (ev_blt1 (ev_var rfl) (lf_len (ds := []) rfl)) ev_c)) cs_skip) ?_
    refine cs_nx (cs_set (ev_mod (ev_blt1 (ev_add (ev_mul (ev_ix (ev_var rfl) ev_c rfl rfl) ev_c hseed (Smn.nat (by decide)) (by decide) (by decide)) ev_c) lf_int1) ev_c (by decide)) rfl) ?_
    refine cs_nx (cs_setIxR (ev_var rfl) (ev_var rfl) ev_c rfl rfl rfl) ?_
    exact cs_ret (ev_mod (ev_blt1 (ev_div (ev_var rfl) ev_c (by decide) (Smn.nat (by decide)) (by decide)) lf_int1) (ev_var rfl) h) rfl
noncomputable section
def lp_law_state1 : C := (C.set 1 (E.op O.mod (E.blt F.int1 [(E.op O.add (E.op O.mul (E.var 1) (E.c (.int 31))) (E.var 2))]) (E.c (.int 1000003))))
@[reducible] def st_law_state_2 : C := (C.for_ (I.seq (E.var 0)) (G.nm 2) lp_law_state1)
@[reducible] def st_law_state_3 : C := (C.ret (E.shr (N.disp [(E.shr (N.comp (I.seqC (E.var 0)) (G.nm 2) [2] (ret true) (E.blt F.abs [(E.var 2)]))), (E.op O.add (E.var 1) (E.c (.int 1)))])))
def b_law_state : C := (C.seq (C.set 1 (E.c (.int 7))) (C.seq st_law_state_2 st_law_state_3))
def m_law_state : Fn := fn 3 1 b_law_state
end
theorem loop_ev (it : It) (hk : it.chk = none) : ∀ (cs : List Int) (A : Sl) (a : Int) (X : Sl), 0 ≤ a → a ≤ 1000003 → N.isOwn (some X) = false → ∃ (a' : Int) (X' : Sl), 0 ≤ a' ∧ a' ≤ 1000003 ∧ N.isOwn (some X') = false ∧ C.loop it (G.nm 2) lp_law_state1 (cs.map D.int) ⟨[A, .val (.int a), X], []⟩ = some (.nx, ⟨[A, .val (.int a'), X'], []⟩)
  | [], A, a, X, h0, h1, hX => ⟨a, X, h0, h1, hX, loop_nil hk⟩
  | c :: cs, A, a, X, h0, h1, hX => by
    obtain ⟨a', X', h2, h3, h5, h4⟩ := loop_ev it hk cs A ((a * 31 + c) % 1000003) (.val (.int c)) (by omega) (by omega) rfl
    refine ⟨a', X', h2, h3, h5, loop_cons hk rfl (f := .nx) (z2 := ⟨[A, .val (.int ((a * 31 + c) % 1000003)), .val (.int c)], []⟩) ?_ h4⟩
    unfold lp_law_state1
    exact cs_set (ev_mod (ev_blt1 (ev_add (ev_mul (ev_var rfl) ev_c (Smn.of (by omega)) (Smn.nat (by decide)) (by decide) (by decide)) (ev_var rfl)) lf_int1) ev_c (by decide)) rfl
theorem comp_ev (cs : List Int) (A B X : Sl) (hX : N.isOwn (some X) = false) (hA : A = .val (.scr (cs.map D.int))) (hl : cs.length ≤ 63) : N.comp (I.seqC (E.var 0)) (G.nm 2) [2] (Mi.ret true) (E.blt F.abs [(E.var 2)]) ⟨[A, B, X], []⟩ = some ((cs.map fun i => if i < 0 then -i else i).map D.int, ⟨[A, B, X], []⟩) := by
  subst hA
  have hl2 : (cs.map D.int).length ≤ szl := by
    rw [List.length_map]
    exact Nat.le_trans hl (by decide)
  have e := ev_comp (g := G.nm 2) (vs := [2]) (tt := Mi.ret true) (te := E.blt F.abs [(E.var 2)]) (z := ⟨[.val (.scr (cs.map D.int)), B, X], []⟩) (ev_seqC (x := .scr (cs.map D.int)) (ev_var (n := 0) rfl) rfl) hl2 (by show (!N.isOwn (some X) && true) = true; rw [hX]; rfl)
    (comp_loop rfl (fun _ => true) (fun d => match d with | .int i => .int (if i < 0 then -i else i) | d => d) ⟨[.val (.scr (cs.map D.int)), B, .no], []⟩ (fun d hd => ?_) _ [] fun d hd => hd)
  · rw [e]
    have e2 : (cs.map fun i => if i < 0 then -i else i).map D.int = [] ++ ((cs.map D.int).filter fun _ => true).map (fun d => match d with | .int i => .int (if i < 0 then -i else i) | d => d) := by
      rw [List.filter_eq_self.mpr (fun _ _ => rfl), List.nil_append, List.map_map, List.map_map]
      rfl
    rw [e2]
    rfl
  · obtain ⟨i, hi, rfl⟩ := List.mem_map.mp hd
    refine ⟨⟨[.val (.scr (cs.map D.int)), B, .val (.int i)], []⟩, _, ⟨[.val (.scr (cs.map D.int)), B, .val (.int i)], []⟩, rfl, rfl, fun _ => ⟨?_, rfl⟩, fun _ => rfl, fun h => nomatch h⟩
    exact ev_blt1 (ev_var rfl) lf_abs
theorem state_ev (ns : List Int) (hl : ns.length ≤ 63) : ∃ s : DS, m_law_state [.scr (ns.map D.int)] [] = some (.ref 1, stH s) := by
  obtain ⟨a', X', h2, h3, h4⟩ := loop_ev ⟨ns.map D.int, none⟩ rfl ns (.val (.scr (ns.map D.int))) 7 .no (by decide) (by decide) rfl
  refine ⟨⟨ns.map fun i => if i < 0 then -i else i, a' + 1, by omega⟩, ?_⟩
  obtain ⟨hX, h4⟩ := h4
  unfold m_law_state
  apply fn_rtH rfl
  unfold b_law_state
  refine cs_nx (cs_set ev_c rfl) ?_
  refine cs_nx (cs_for (ev_seq (ev_var rfl) rfl) h4) ?_
  exact cs_ret (ev_shr (ev_disp (ev_args (ev_shr (comp_ev ns _ _ X' hX rfl hl)) (ev_args (ev_add (ev_var rfl) ev_c) ev_args0 rfl) rfl))) rfl
end Dr
end Mi
set_option Elab.async false
set_option linter.all false
set_option maxRecDepth 100000
namespace Mi
open PySem PySem.Spec PyProof.Rows L2 PySem.W
/-- the key of a thing that can be sorted by itself -/
def pk (d : D) : PyData := (O.toP d).getD .none
def alikeB (ps : List PyData) : Bool := ps.all fun p => ps.all fun q => alike p q
def headTup : PyData → Bool
  | .tuple (_ :: _) => true
  | _ => false
def noTup : PyData → Bool
  | .none => false
  | .tuple _ => false
  | _ => true
def sortB (ps : List PyData) : Bool := ps.all headTup || ps.all noTup
def srtOk (ps : List PyData) : Bool := alikeB ps && sortB ps && ps.all fun p => decide (p.depth ≤ 40)
/-- the sorted list, stable -/
def srt (k : D → PyData) (ds : List D) : List D := ds.mergeSort (dataLe false k)
end Mi
set_option Elab.async false
set_option linter.all false
set_option maxRecDepth 100000
namespace Mi
open PySem PySem.Spec PyProof.Rows L2 PySem.W
/-- the promise of a def at calls from outside any __repr__ -/
def GOk (P : Program) (w : World) (K : PySem.W.Frag) (mg : Str → Option Value) (base : Heap) (k : Nat) (f : Addr) (fd : FuncData) (ps : List Str) (sp : Sp) : Prop :=
  ∀ (A : Around) (env : List Env) (sh : Shared) (Hh : Hp) (ar : Args) (us : List Value) (xs : List V) (Qq : VK) (Ee : XK), A.guards = some [] → Room k A → Env0 P w K mg base A env sh Hh → BindsTo sh fd ar (ps.zip us) → Vals xs us →
    sp xs Hh Qq Ee → codeAny (model P w) A (.call (.ref f) ar) (CR CX0 env P w Hh sh Qq Ee) sh
/-- the law's tables of code objects, as the head leaves them: code object, table, the code's name -/
def tbs (cs : List Cs) : List (Addr × Str) := cs.map fun z => (z.p, z.q)
/-- at the head's end -/
structure CsOk (K : PySem.W.Frag) (hp : Heap) (cs : List Cs) : Prop where
  tab : ∀ z ∈ cs, hp.get? z.p = some (PySem.W.tabObj #[])
  notK : ∀ z ∈ cs, K.lookup z.p = none
  code : ∀ z ∈ cs, PySem.W.CodeHd hp z.c z.p
  one : ∀ z ∈ cs, ∀ y ∈ cs, z.p = y.p → z.q = y.q
theorem CsOk.nil {K : PySem.W.Frag} {hp : Heap} : CsOk K hp [] := ⟨(fun _ h => nomatch h), (fun _ h => nomatch h), (fun _ h => nomatch h), fun _ h => nomatch h⟩
/-- the main module's namespace of built-ins -/
def BMain (mg : Str → Option Value) (hp : Heap) : Prop := ∃ (bm : Addr) (ob : Obj), mg "__builtins__" = some (.ref bm) ∧ bm ≠ builtinsNs ∧ hp.get? bm = some ob ∧ ob.cls = .type "module" ∧ ob.dict = some builtinsNs ∧ ob.data = .plain
/-- the law's row at its call; the heap Hh in which at most the script and the tables are seen -/
theorem row_at {P : Program} {w : World} {K : PySem.W.Frag} {mg mb : Str → Option Value} {k : Nat} {fa a : Addr} {fd : FuncData} {x : Str} {sp : Sp} {sh : Shared} {us : List Value} {Hh : Hp} {cs : List Cs}
    (kin : K.In sh.heap) (nm : sh.heap.Ns mainGlobals mg) (nb : sh.heap.Ns builtinsNs mb) (nbb : ∀ y : Str, y ≠ "__name__" → mb y = bootBuiltins y) (lim : sh.heap.NoLimit) (gens : sh.gens = #[]) (ck : CsOk K sh.heap cs) (bmn : BMain mg sh.heap)
    (scr : sh.heap.get? a = some { cls := .type "list", data := .seq us.toArray }) (room : Room k callerA)
    (F : ∀ base : Heap, K.In base → base.Ns mainGlobals mg → (∀ z ∈ cs, LamX.TabB base mg z.c z.p) → GOk P w K mg base k fa fd [x] sp) (bind : ∀ (s2 : Shared) (u : Value), BindsTo s2 fd ⟨[u], []⟩ [(x, u)])
    (only : ∀ b, Hh b = none ∨ (∃ z ∈ cs, z.p = b) ∨ ∃ ob ys, Hh b = some (.frz ob ys)) (hok : HOk P w Hh sh.heap) (seen : ∀ b, Hh b ≠ none → b = a ∨ ∃ z ∈ cs, z.p = b) (new : Hh a ≠ none → K.lookup a = none) (hT : ∀ z ∈ cs, Hh z.p = some (.tbl #[])) (pr : sp [.ref a] Hh (fun v _ => v = .bl true) fun _ _ _ => False) :
    codeAny (model P w) callerA (.call (.ref fa) ⟨[.ref a], []⟩) (fun rs s2 => rs = .ok (.ret (.bool true)) ∧ OldK sh.heap s2.heap ∧ s2.os = sh.os ∧ AllBare s2.gens) sh := by
  have keeps : ∀ {b : Addr} {o : Obj}, sh.heap.get? b = some o → (∀ ys m, o.data ≠ .seq ys m) → o.data ≠ .fields #[] → (hidT sh.heap Hh).get? b = some o := by
    intro b o p n1 n2
    refine hidT_get p ?_
    cases hb : Hh b with
    | none => rfl
    | some u =>
      rcases seen b (by rw [hb]; exact Option.some_ne_none u) with rfl | ⟨z, hz, rfl⟩
      · rw [scr] at p
        cases p
        exact (n1 _ _ rfl).elim
      · rw [ck.tab z hz] at p
        cases p
        exact (n2 rfl).elim
  have nsHid : ∀ {b : Addr} {m : Str → Option Value}, sh.heap.Ns b m → (hidT sh.heap Hh).Ns b m := by
    rintro b m ⟨o, es, ep, p, dd, rr⟩
    exact ⟨o, es, ep, keeps p (fun ys n c => by rw [dd] at c; cases c) (fun c => by rw [dd] at c; cases c), dd, rr⟩
  have kinHid : K.In (hidT sh.heap Hh) := by
    intro b o lk
    refine hidT_get (kin b o lk) ?_
    cases hb : Hh b with
    | none => rfl
    | some u =>
      rcases seen b (by rw [hb]; exact Option.some_ne_none u) with rfl | ⟨z, hz, rfl⟩
      · rw [new (by rw [hb]; exact Option.some_ne_none u)] at lk
        cases lk
      · rw [ck.notK z hz] at lk
        cases lk
  have md : Mod K mg (hidT sh.heap Hh) := by
    refine ⟨kinHid, nsHid nm, ⟨mb, nsHid nb, nbb⟩, ?_⟩
    obtain ⟨mc, l1, l2⟩ := lim
    exact ⟨mc, nsHid l1, l2⟩
  have tb : ∀ z ∈ cs, LamX.TabB (hidT sh.heap Hh) mg z.c z.p := by
    intro z hz
    have hP := ck.tab z hz
    refine ⟨?_, ?_, fun c => ?_⟩
    · obtain ⟨o, fs, fl, t1, g1, t2, i1, x1, t3, q0, q1, q2, q3, qs⟩ := ck.code z hz
      refine ⟨o, fs, fl, t1, g1, t2, i1, x1, t3, keeps q0 (fun ys n c => by rw [q2] at c; cases c) (fun c => ?_), q1, q2, q3, qs⟩
      rw [q2] at c
      cases c
      simp at q3
    · obtain ⟨bm, ob, q1, q2, q3, q4, q5, q6⟩ := bmn
      refine ⟨bm, ob, q1, q2, fun c => ?_, fun c => ?_, keeps q3 (fun ys n c => by rw [q6] at c; cases c) (fun c => by rw [q6] at c; cases c), q4, q5, q6⟩
      · obtain ⟨o, es, ep, p, dd, _⟩ := nm
        rw [c, p] at q3
        cases q3
        rw [dd] at q6
        cases q6
      · rw [c, hP] at q3
        cases q3
        cases q6
    · obtain ⟨o, es, ep, p, dd, _⟩ := nm
      rw [c, hP] at p
      cases p
      cases dd
  have e0 : Env0 P w K mg (hidT sh.heap Hh) callerA [] sh Hh :=
    { frames := rfl, mod := md, bs := fun _ _ p => of_hidT p, bsz := Nat.le_of_eq (hidT_size _ _), funs := trivial, frf := fun b hb => absurd hb List.not_mem_nil, hok := hok, bare := .of_eq gens }
  have run := F _ kinHid (nsHid nm) tb callerA [] sh Hh ⟨[.ref a], []⟩ [.ref a] [.ref a] _ _ rfl room e0 (bind sh (.ref a)) (.cons rfl .nil) pr
  apply codeAny_mono run
  intro rs s2 hr
  match rs, hr with
  | .error e, hr => exact False.elim hr
  | .ok .next, hr => exact False.elim hr
  | .ok .brk, hr => exact False.elim hr
  | .ok .cont, hr => exact False.elim hr
  | .ok (.ret u), ⟨v, H2, os, bare, un, hok2, rv, q⟩ =>
    have q : v = .bl true := q
    subst q
    have rv : u = Value.bool true := rv
    subst rv
    have grow : ∀ z ∈ cs, ∃ vs : Array Value, s2.heap.get? z.p = some (PySem.W.tabObj vs) := by
      intro z hz
      obtain ⟨vs, e⟩ := un.tbls z.p #[] (hT z hz)
      exact ⟨_, hok2 z.p _ e⟩
    have same : ∀ {b : Addr} {o : Obj}, (¬ ∃ z ∈ cs, z.p = b) → sh.heap.get? b = some o → s2.heap.get? b = some o := by
      intro b o nz p
      rcases only b with c | c | ⟨ob, ys, c⟩
      · exact un.keep b o p c (fun z => absurd z List.not_mem_nil) List.not_mem_nil
      · exact absurd c nz
      · have p1 := (hok b _ c).1
        have p2 := (hok2 b _ (un.frzs b ob _ c)).1
        rw [p] at p1
        cases p1
        exact p2
    refine ⟨rfl, ⟨fun b o p => ?_, fun b o p => ?_⟩, os, bare⟩
    · by_cases c : ∃ z ∈ cs, z.p = b
      · obtain ⟨z, hz, rfl⟩ := c
        obtain ⟨vs, e⟩ := grow z hz
        rw [ck.tab z hz] at p
        cases p
        exact .inr (.inl ⟨((ck.code z hz).tab (ck.tab z hz)).isCodeTable, rfl, #[], vs, rfl, by simpa using e⟩)
      · exact .inl (same c p)
    · by_cases c : ∃ z ∈ cs, z.p = b
      · obtain ⟨z, hz, rfl⟩ := c
        obtain ⟨vs, e⟩ := grow z hz
        exact ⟨_, e⟩
      · exact ⟨o, same c p⟩
theorem row_call {P : Program} {w : World} {K : PySem.W.Frag} {mg mb : Str → Option Value} {k : Nat} {fa a : Addr} {fd : FuncData} {x : Str} {sp : Sp} {sh : Shared} {us : List Value} {ns : List Int} {cs : List Cs}
    (kin : K.In sh.heap) (nm : sh.heap.Ns mainGlobals mg) (nb : sh.heap.Ns builtinsNs mb) (nbb : ∀ y : Str, y ≠ "__name__" → mb y = bootBuiltins y) (lim : sh.heap.NoLimit) (gens : sh.gens = #[]) (ck : CsOk K sh.heap cs) (bmn : BMain mg sh.heap)
    (scr : sh.heap.get? a = some { cls := .type "list", data := .seq us.toArray }) (iar : IntsAre us ns) (short : ns.length ≤ sizeLine) (room : Room k callerA)
    (F : ∀ base : Heap, K.In base → base.Ns mainGlobals mg → (∀ z ∈ cs, LamX.TabB base mg z.c z.p) → GOk P w K mg base k fa fd [x] sp) (bind : ∀ (s2 : Shared) (u : Value), BindsTo s2 fd ⟨[u], []⟩ [(x, u)])
    (pr : ∀ Hh : Hp, (∀ z ∈ cs, Hh z.p = some (.tbl #[])) → SqL K Hh a (ns.map V.int) → sp [.ref a] Hh (fun v _ => v = .bl true) fun _ _ _ => False) :
    codeAny (model P w) callerA (.call (.ref fa) ⟨[.ref a], []⟩) (fun rs s2 => rs = .ok (.ret (.bool true)) ∧ OldK sh.heap s2.heap ∧ s2.os = sh.os ∧ AllBare s2.gens) sh := by
  have rv := L2.vals_ints iar
  have nl : (ns.map V.int).length ≤ sizeLine := by rw [List.length_map]; exact short
  have aT : ¬ ∃ z ∈ cs, z.p = a := by
    rintro ⟨z, hz, rfl⟩
    have := ck.tab z hz
    rw [scr] at this
    cases this
  classical
  cases hk : K.lookup a with
  | some o =>
    have p := kin a o hk
    rw [scr] at p
    cases p
    have ul : us.toArray.size ≤ sizeLine := by rw [List.size_toArray, iar.length]; exact short
    have rv2 : Vals (ns.map V.int) us.toArray.toList := by simpa using rv
    let Ht : Hp := fun b => if ∃ z ∈ cs, z.p = b then some (.tbl #[]) else none
    have hT : ∀ z ∈ cs, Ht z.p = some (.tbl #[]) := fun z hz => if_pos ⟨z, hz, rfl⟩
    have off : ∀ {b : Addr}, (¬ ∃ z ∈ cs, z.p = b) → Ht b = none := fun c => if_neg c
    refine row_at (cs := cs) kin nm nb nbb lim gens ck bmn scr room F bind (Hh := Ht) (fun b => ?_) (fun b u e => ?_) (fun b e => ?_) (fun e => absurd (off aT) e) hT (pr _ hT (.inr ⟨_, us.toArray, _, hk, rfl, rfl, rfl, ul, rv2⟩))
    · by_cases c : ∃ z ∈ cs, z.p = b
      · exact .inr (.inl c)
      · exact .inl (off c)
    · by_cases c : ∃ z ∈ cs, z.p = b
      · obtain ⟨z, hz, rfl⟩ := c
        rw [hT z hz] at e
        cases e
        exact ck.tab z hz
      · rw [off c] at e
        cases e
    · by_cases c : ∃ z ∈ cs, z.p = b
      · exact .inr c
      · exact absurd (off c) e
  | none =>
    let Hs : Hp := fun b => if b = a then some (.frz { cls := .type "list", data := .seq us.toArray } (.lst (ns.map V.int))) else if ∃ z ∈ cs, z.p = b then some (.tbl #[]) else none
    have atA : Hs a = some (.frz { cls := .type "list", data := .seq us.toArray } (.lst (ns.map V.int))) := if_pos rfl
    have hT : ∀ z ∈ cs, Hs z.p = some (.tbl #[]) := fun z hz => (if_neg fun c => aT ⟨z, hz, c⟩).trans (if_pos ⟨z, hz, rfl⟩)
    have off : ∀ {b : Addr}, b ≠ a → (¬ ∃ z ∈ cs, z.p = b) → Hs b = none := fun n c => (if_neg n).trans (if_neg c)
    refine row_at (cs := cs) kin nm nb nbb lim gens ck bmn scr room F bind (Hh := Hs) (fun b => ?_) (fun b u e => ?_) (fun b e => ?_) (fun _ => hk) hT (pr Hs hT (.inl (.inr ⟨_, atA⟩)))
    · by_cases hb : b = a
      · subst hb; exact .inr (.inr ⟨_, _, atA⟩)
      · by_cases c : ∃ z ∈ cs, z.p = b
        · exact .inr (.inl c)
        · exact .inl (off hb c)
    · by_cases hb : b = a
      · subst hb
        rw [atA] at e
        cases e
        exact ⟨scr, nl, us, _, rv, scr⟩
      · by_cases c : ∃ z ∈ cs, z.p = b
        · obtain ⟨z, hz, rfl⟩ := c
          rw [hT z hz] at e
          cases e
          exact ck.tab z hz
        · rw [off hb c] at e
          cases e
    · by_cases hb : b = a
      · exact .inl hb
      · by_cases c : ∃ z ∈ cs, z.p = b
        · exact .inr c
        · exact absurd (off hb c) e
/-- a def's promise, as one from outside any __repr__ -/
theorem FnOk.g {P : Program} {w : World} {K : PySem.W.Frag} {mg : Str → Option Value} {base : Heap} {k : Nat} {f : Addr} {fd : FuncData} {ps : List Str} {sp : Sp} (h : FnOk P w K mg base CX0 k f fd ps sp) : GOk P w K mg base k f fd ps sp :=
  fun A env sh Hh ar us xs Qq Ee _ room e0 bd rx hsp => h.run A env sh Hh ar us xs Qq Ee room e0 bd rx hsp
end Mi
set_option Elab.async false
set_option linter.all false
set_option maxRecDepth 100000
namespace Mi
open PySem L2
/-- c runs to an end of which Φ holds -/
def Dz (c : C) (z : Z) (Φ : Fl → Z → Prop) : Prop := ∃ f z', c z = some (f, z') ∧ Φ f z'
section
variable {a b c : C} {z z1 : Z} {Φ Ψ : Fl → Z → Prop}
theorem Dz.of {f : Fl} (h : c z = some (f, z1)) (q : Φ f z1) : Dz c z Φ := ⟨f, z1, h, q⟩
theorem Dz.imp (h : Dz c z Ψ) (k : ∀ f z1, Ψ f z1 → Φ f z1) : Dz c z Φ := by
  obtain ⟨f, z1, e, q⟩ := h
  exact ⟨f, z1, e, k f z1 q⟩
theorem Dz.nx (h : a z = some (.nx, z1)) (k : Dz b z1 Φ) : Dz (C.seq a b) z Φ := by
  obtain ⟨f, z2, e, q⟩ := k
  exact ⟨f, z2, cs_nx h e, q⟩
theorem Dz.rt {d : D} (h : a z = some (.rt d, z1)) (q : Φ (.rt d) z1) : Dz (C.seq a b) z Φ := ⟨_, _, cs_rt h, q⟩
/-- behind a: on, or out -/
def onTo (b : C) (Φ : Fl → Z → Prop) : Fl → Z → Prop := fun f z => match f with
  | .nx => Dz b z Φ
  | f => Φ f z
theorem Dz.seq (h : Dz a z (onTo b Φ)) : Dz (C.seq a b) z Φ := by
  obtain ⟨f, z1, e, q⟩ := h
  cases f with
  | nx =>
    obtain ⟨f, z2, e2, q⟩ := (show Dz b z1 Φ from q)
    exact ⟨f, z2, cs_nx e e2, q⟩
  | rt d => exact ⟨_, _, cs_rt e, q⟩
  | bk => exact ⟨_, _, cs_bk e, q⟩
  | ct => exact ⟨_, _, cs_ct e, q⟩
theorem Dz.ite {t : M Bool} {p : Bool} (h : t z = some (p, z1)) (hT : p = true → Dz a z1 Φ) (hF : p = false → Dz b z1 Φ) : Dz (C.ite t a b) z Φ := by
  cases p with
  | true =>
    obtain ⟨f, z2, e, q⟩ := hT rfl
    exact ⟨f, z2, cs_iteT h e, q⟩
  | false =>
    obtain ⟨f, z2, e, q⟩ := hF rfl
    exact ⟨f, z2, cs_iteF h e, q⟩
theorem Dz.skip (q : Φ .nx z) : Dz C.skip z Φ := ⟨_, _, cs_skip, q⟩
theorem Dz.brk (q : Φ .bk z) : Dz C.brk z Φ := ⟨_, _, rfl, q⟩
theorem Dz.cnt (q : Φ .ct z) : Dz C.cnt z Φ := ⟨_, _, rfl, q⟩
/-- the end of a turn -/
def turn (I : Z → Prop) (Φ : Fl → Z → Prop) : Fl → Z → Prop := fun f z => match f with
  | .nx => I z
  | .ct => I z
  | .bk => Φ .nx z
  | .rt d => Φ (.rt d) z
theorem Dz.loop {it : It} {g : G} (hk : it.chk = none) (I : List D → Z → Prop) (step : ∀ d ds z, I (d :: ds) z → ∃ z1, g.run d z = some z1 ∧ Dz b z1 (turn (I ds) Φ)) (fin : ∀ z, I [] z → Φ .nx z) : ∀ (ds : List D) (z : Z), I ds z → Dz (C.loop it g b ds) z Φ
  | [], z, h => ⟨_, _, loop_nil hk, fin z h⟩
  | d :: ds, z, h => by
    obtain ⟨z1, e1, f, z2, e2, q⟩ := step d ds z h
    cases f with
    | nx =>
      obtain ⟨f, z3, e3, q3⟩ := Dz.loop hk I step fin ds z2 q
      exact ⟨f, z3, loop_cons hk e1 e2 e3, q3⟩
    | ct =>
      obtain ⟨f, z3, e3, q3⟩ := Dz.loop hk I step fin ds z2 q
      exact ⟨f, z3, loop_cons hk e1 e2 e3, q3⟩
    | bk => exact ⟨_, _, loop_cons hk e1 e2 rfl, q⟩
    | rt d => exact ⟨_, _, loop_cons hk e1 e2 rfl, q⟩
theorem Dz.for_ {mi : M It} {it : It} {g : G} (h : mi z = some (it, z1)) (hk : it.chk = none) (I : List D → Z → Prop) (h0 : I it.items z1) (step : ∀ d ds z, I (d :: ds) z → ∃ z1, g.run d z = some z1 ∧ Dz b z1 (turn (I ds) Φ)) (fin : ∀ z, I [] z → Φ .nx z) : Dz (C.for_ mi g b) z Φ := by
  obtain ⟨f, z2, e, q⟩ := Dz.loop hk I step fin it.items z1 h0
  exact ⟨f, z2, cs_for h e, q⟩
/-- while, by a measure -/
theorem Dz.whl {t : M Bool} (I : Nat → Z → Prop) (step : ∀ n z, I n z → ∃ p z1, t z = some (p, z1) ∧ (p = true → Dz b z1 (turn (fun z2 => ∃ m, m < n ∧ I m z2) Φ)) ∧ (p = false → Φ .nx z1)) : ∀ (n : Nat) (z : Z), I n z → Dz (C.whl t b) z Φ := by
  intro n
  induction n using Nat.strongRecOn with
  | ind n ih =>
    intro z h
    obtain ⟨p, z1, e, hT, hF⟩ := step n z h
    cases p with
    | false => exact ⟨_, _, whl_f e, hF rfl⟩
    | true =>
      obtain ⟨f, z2, e2, q⟩ := hT rfl
      cases f with
      | nx =>
        obtain ⟨m, hm, q⟩ := q
        obtain ⟨f, z3, e3, q3⟩ := ih m hm z2 q
        exact ⟨f, z3, whl_t e e2 e3, q3⟩
      | ct =>
        obtain ⟨m, hm, q⟩ := q
        obtain ⟨f, z3, e3, q3⟩ := ih m hm z2 q
        refine ⟨f, z3, ?_, q3⟩
        rw [C.whl, e]
        dsimp only
        rw [e2]
        exact e3
      | bk => exact ⟨_, _, whl_bk e e2, q⟩
      | rt d => exact ⟨_, _, whl_rt e e2, q⟩
/-- a def by its body -/
theorem Dz.fn {n k : Nat} {ds h : List D} {R : D → List D → Prop} (hl : ds.length = k) (hb : Dz c ⟨slots n ds, h⟩ fun f z => match f with | .nx => R .non z.h | .rt d => R d z.h | _ => False) : ∃ d h', fn n k c ds h = some (d, h') ∧ R d h' := by
  obtain ⟨f, z', e, q⟩ := hb
  cases f with
  | nx => exact ⟨.non, z'.h, by unfold Mi.fn; rw [if_pos hl, e], q⟩
  | rt d => exact ⟨d, z'.h, by unfold Mi.fn; rw [if_pos hl, e], q⟩
  | bk => exact q.elim
  | ct => exact q.elim
end
end Mi
set_option Elab.async false
set_option linter.all false
set_option maxRecDepth 100000
set_option maxHeartbeats 2000000
namespace Mi
open PySem L2
local macro_rules | `(tactic| wtm_at "leaf") => `(tactic| first
  | ((with_reducible apply lf_cont); rfl)
  | (with_reducible exact atI_zero)
  | ((with_reducible apply lf_dcont); rfl)
  | ((with_reducible apply lf_dcS); rfl)
  | ((with_reducible apply lf_dgetC); rfl)
  | ((with_reducible apply lf_keyD); rfl)
  | ((with_reducible apply lf_isDict); rfl)
  | ((with_reducible apply lf_dkeys); rfl)
  | ((with_reducible apply lf_atI); first | rfl | exact atI_zero)
  | ((with_reducible apply lf_get); rfl)
  | ((with_reducible apply lf_pure); rfl)
  | ((with_reducible apply lf_setAt); rfl)
  | ((with_reducible apply lf_tru); rfl)
  | ((with_reducible apply lf_lt); exact Nat.le_of_ble_eq_true rfl)
  | ((with_reducible apply lf_pos); first | assumption | decide | omega)
  | ((with_reducible apply lf_le); decide)
  | ((with_reducible apply lf_isNm); rfl)
  | ((with_reducible apply lf_notNm); rfl)
  | ((with_reducible apply lf_noScr); rfl)
  | ((with_reducible apply lf_noKt); rfl)
  | (with_reducible exact eqP_int)
  | (with_reducible exact lf_abs)
  | (with_reducible exact lf_int1)
  | (with_reducible exact lf_max2)
  | (with_reducible exact lf_min2)
  | (with_reducible apply lf_len)
  | (with_reducible apply lf_tuple)
  | (with_reducible apply lf_isi)
  | (with_reducible exact eqP_t3)
  | (with_reducible exact eqP_bl)
  | (with_reducible exact eqP_t2)
  | (with_reducible exact kb_tt)
  | (with_reducible exact kb_bb)
  | (with_reducible exact kb_ii)
  | (with_reducible exact kb_it)
  | (with_reducible exact kb_ib)
  | (with_reducible exact kb_bi)
  | (with_reducible exact kb_ll)
  | (with_reducible exact kb_ss)
  | ((with_reducible apply lf_isiK); with_unfolding_all decide)
  | ((with_reducible apply lf_ty); rfl)
  | ((with_reducible apply lf_bd); exact ⟨by decide, by decide⟩)
  | ((with_reducible apply lf_allO); rfl)
  | ((with_reducible apply lf_app); first | ((repeat (first | (with_reducible exact la_nil) | (with_reducible apply la_cons))); done) | rfl)
  | ((with_reducible apply lf_set); first | ((repeat (first | (with_reducible exact sl_z) | (with_reducible apply sl_s))); done) | rfl)
  | ((with_reducible apply lf_slots); first | ((repeat (first | (with_reducible exact se_nil) | (with_reducible apply se_cons) | (with_reducible apply ss_cons) | (with_reducible apply ss_nil))); done) | rfl)
  | (with_reducible exact sw_nil)
  | (with_reducible apply sw_cons)
  | ((with_reducible apply lf_wipe); rfl)
  | (with_reducible exact sr_nil)
  | (with_reducible apply sr_cons)
  | ((with_reducible apply lf_rest); rfl)
  | (with_reducible apply gr_nm)
  | (with_reducible exact gr_nil)
  | (with_reducible apply gr_cons)
  | (with_reducible apply gr_tp)
  | (with_reducible apply gr_tl)
  | ((with_reducible apply lf_run); first | (simp only [G.nm, G.tp, G.tl, G.runs, List.set_cons_succ, List.set_cons_zero]; done) | rfl)
  | ((with_reducible apply lf_len0); rfl)
  )
local macro_rules | `(tactic| wtm_at "sm") => `(tactic| first
  | ((with_reducible apply lf_smn); with_reducible assumption)
  | (with_reducible exact Smn.nat (by decide))
  | (with_reducible apply Smn.mul)
  | (with_reducible apply Smn.add)
  | (with_reducible apply Smn.sub)
  | (with_reducible apply Smn.neg)
  | (with_reducible apply Smn.ite)
  | (with_reducible apply Smn.div _ (by omega))
  | (with_reducible apply Smn.mod _ (by omega))
  | ((with_reducible refine Smn.of ?_); omega))
local macro_rules | `(tactic| wtm_at "nl") => `(tactic| first
  | (with_reducible apply ev_rng1)
  | (with_reducible apply ev_rng2)
  | (with_reducible apply nl_nil)
  | ((with_reducible apply lf_nl); first | apply nl_tN | apply nl_nil)
  | ((with_reducible apply lf_ok); rfl)
  | ((with_reducible apply lf_itm); rfl))
local macro_rules | `(tactic| wtm_at "e1") => `(tactic| first
  | (with_reducible intro _)
  | (with_reducible exact ev_c)
  | (with_reducible exact ev_args0)
  | (with_reducible exact ev_part0)
  | ((with_reducible apply ev_var); rfl)
  | ((with_reducible apply ev_varO); rfl)
  | (with_reducible apply ev_ix)
  | (with_reducible apply ev_dix)
  | (with_reducible apply ev_din)
  | (with_reducible apply ev_dnotIn)
  | (with_reducible apply ev_get1)
  | (with_reducible apply ev_get2)
  | (with_reducible apply ev_shrN)
  | (with_reducible apply ev_frzD)
  | (with_reducible exact ev_pairs0)
  | (with_reducible apply ev_pairs)
  | (with_reducible apply ev_dispK)
  | (with_reducible apply ev_sortedD)
  | (with_reducible apply ev_rev)
  | (with_reducible apply ev_cutT)
  | (with_reducible apply ev_catT)
  | (with_reducible apply ev_seqK)
  | (with_reducible apply ev_add)
  | (with_reducible apply ev_sub)
  | (with_reducible apply ev_mul)
  | (with_reducible apply ev_div)
  | (with_reducible apply ev_mod)
  | (with_reducible apply ev_neg)
  | (with_reducible apply ev_lt)
  | (with_reducible apply ev_le)
  | (with_reducible apply ev_gt)
  | (with_reducible apply ev_ge)
  | (with_reducible apply ev_eq)
  | (with_reducible apply ev_ne)
  | (with_reducible apply ev_isN)
  | (with_reducible apply ev_notN)
  | (with_reducible apply ev_args)
  | (with_reducible apply ev_tup)
  | (with_reducible apply ev_frz)
  | (with_reducible apply ev_shr)
  | (with_reducible apply ev_disp)
  | (with_reducible apply ev_blt1)
  | (with_reducible apply ev_blt2)
  | (with_reducible apply ev_un)
  | (with_reducible apply ev_and)
  | (with_reducible apply ev_or)
  | (with_reducible apply ev_not)
  | (with_reducible apply tv)
  | (with_reducible apply tt_tru)
  | (with_reducible apply tt_and)
  | (with_reducible apply tt_or)
  | (with_reducible apply tt_not)
  | (with_reducible apply ev_ofSeq)
  | (with_reducible apply ev_part)
  | (with_reducible apply ev_slice)
  | (with_reducible apply ev_compN)
  | (with_reducible exact ev_true)
  | wtm_at "nl"
  | (with_reducible apply ev_chain)
  | (with_reducible apply ev_call)
  | wtm_at "call"
  | wtm_at "leaf"
  | wtm_at "sm")
local macro_rules | `(tactic| wtm_at "ev") => `(tactic| repeat' wtm_at "e1")
local macro_rules | `(tactic| wtm_at "dec") => `(tactic| decide)
local macro_rules | `(tactic| wtm_at "s1") => `(tactic| first
  | (with_reducible exact cs_skip)
  | (with_reducible apply cs_setN)
  | (with_reducible apply cs_dputO)
  | (with_reducible apply cs_ownD)
  | (with_reducible apply cs_frzD)
  | (with_reducible apply cs_retD)
  | (with_reducible apply cs_ownN)
  | (with_reducible apply cs_frzN)
  | (with_reducible apply cs_augN)
  | (with_reducible apply ev_chgN)
  | (with_reducible apply cs_setIxN)
  | (with_reducible apply cs_drop)
  | (with_reducible apply cs_asg)
  | (with_reducible apply cs_ret)
  | wtm_at "e1")
local macro_rules | `(tactic| wtm_at "st") => `(tactic| repeat' wtm_at "s1")
local macro_rules | `(tactic| wtm_at "dz") => `(tactic| (with_reducible apply Dz.nx; · wtm_at "st"))
local macro_rules | `(tactic| wtm_at "di") => `(tactic| (with_reducible apply Dz.ite; · wtm_at "ev"))
/-- a row: how far it is read, what stands in it -/
structure TS where
  pos : Int
  cells : List Int
  ok : 1 ≤ pos
def takeV (t : TS) (many : Int) : Int := if t.pos < t.cells.length + 1 then t.cells.getD (t.pos - 1).toNat 0 % many else 0
def takeS (t : TS) : TS := if t.pos < t.cells.length + 1 then ⟨t.pos + 1, t.cells, by have := t.ok; omega⟩ else t
theorem takeV_nn (t : TS) {many : Int} (h : 0 < many) : 0 ≤ takeV t many := by
  unfold takeV
  split
  · exact Int.emod_nonneg _ (by omega)
  · decide
theorem takeV_lt (t : TS) {many : Int} (h : 0 < many) : takeV t many < many := by
  unfold takeV
  split
  · exact Int.emod_lt_of_pos _ h
  · exact h
end Mi
set_option Elab.async false
set_option linter.all false
set_option maxRecDepth 100000
namespace Mi
open PySem L2
/-- d can be shown: its depth, its weight -/
def Rep (d : D) (dep wt : Nat) : Prop := ∃ p, O.toP d = some p ∧ p.showable = true ∧ p.hasDict = false ∧ p.depth ≤ dep ∧ p.leavesShort 12 = true ∧ p.weight ≤ wt
def RepAll (ds : List D) (dep wt : Nat) : Prop := ∃ ps, O.toPs ds = some ps ∧ ps.length = ds.length ∧ PyData.showableAll ps = true ∧ PyData.hasDictAll ps = false ∧ PyData.depthAll ps ≤ dep ∧ PyData.leavesShortAll 12 ps = true ∧ PyData.weightAll ps ≤ ds.length * (wt + 1)
theorem Rep.mono {d : D} {a b w v : Nat} (h : Rep d a w) (h1 : a ≤ b) (h2 : w ≤ v) : Rep d b v := by
  obtain ⟨p, e, h3, h4, h5, h6, h7⟩ := h
  exact ⟨p, e, h3, h4, by omega, h6, by omega⟩
theorem Rep.int {i : Int} (h : -1000000000 ≤ i ∧ i ≤ 1000000000) : Rep (.int i) 0 40 := by
  have h1 : i.natAbs < 10 ^ 10 := by omega
  refine ⟨.int i, rfl, ?_, by simp [PyData.hasDict], by simp [PyData.depth], ?_, ?_⟩
  · simp only [PyData.showable, decide_eq_true_eq]
    have h2 : i.natAbs < 2 ^ 40 := by omega
    by_cases h0 : i.natAbs = 0
    · rw [h0]; decide
    · have := (Nat.log2_lt h0).mpr h2
      omega
  · have q := int_text_length_le10 (a := i) (k := 10) (by decide) h1
    rw [PyData.leavesShort]
    apply decide_eq_true
    show (Str.ofString (toString i)).length ≤ 12
    rw [ofString_length]
    omega
  · simp only [PyData.weight]
    split
    · omega
    · rename_i c
      have h0 : i.natAbs ≠ 0 := by simpa using c
      have h2 : i.natAbs < 2 ^ 39 := by omega
      have := (Nat.log2_lt h0).mpr h2
      omega
theorem Rep.non : Rep .non 0 0 := ⟨.none, rfl, by simp [PyData.showable], by simp [PyData.hasDict], by simp [PyData.depth], by simp [PyData.leavesShort], by simp [PyData.weight]⟩
theorem RepAll.of {dep wt : Nat} : ∀ {ds : List D}, (∀ d ∈ ds, Rep d dep wt) → RepAll ds dep wt
  | [], _ => ⟨[], rfl, rfl, by simp [PyData.showableAll], by simp [PyData.hasDictAll], by simp [PyData.depthAll], by simp [PyData.leavesShortAll], by simp [PyData.weightAll]⟩
  | d :: ds, h => by
    obtain ⟨p, e, h3, h4, h5, h6, h7⟩ := h d List.mem_cons_self
    obtain ⟨ps, e', g2, g3, g4, g5, g6, g7⟩ := RepAll.of (ds := ds) fun x hx => h x (List.mem_cons_of_mem _ hx)
    refine ⟨p :: ps, ?_, by simp [g2], by simp [PyData.showableAll, h3, g3], by simp [PyData.hasDictAll, h4, g4], ?_, by simp [PyData.leavesShortAll, h6, g6], ?_⟩
    · rw [O.toPs, e, e']
    · simp only [PyData.depthAll]; omega
    · simp only [PyData.weightAll, List.length_cons, Nat.add_mul, Nat.one_mul]; omega
theorem Rep.tup {ds : List D} {dep wt n : Nat} (h : ∀ d ∈ ds, Rep d dep wt) (hn : ds.length ≤ n) : Rep (.tup ds) (dep + 1) (n * (wt + 1)) := by
  obtain ⟨ps, e', g2, g3, g4, g5, g6, g7⟩ := RepAll.of h
  have := Nat.mul_le_mul_right (wt + 1) hn
  exact ⟨.tuple ps, by rw [O.toP, e']; rfl, by simpa [PyData.showable] using g3, by simpa [PyData.hasDict] using g4, by simp only [PyData.depth]; omega, by simpa [PyData.leavesShort] using g6, by simp only [PyData.weight]; omega⟩
theorem Rep.lst {ds : List D} {dep wt n : Nat} (h : ∀ d ∈ ds, Rep d dep wt) (hn : ds.length ≤ n) : Rep (.lst ds) (dep + 1) (n * (wt + 1)) := by
  obtain ⟨ps, e', g2, g3, g4, g5, g6, g7⟩ := RepAll.of h
  have := Nat.mul_le_mul_right (wt + 1) hn
  exact ⟨.list ps, by rw [O.toP, e']; rfl, by simpa [PyData.showable] using g3, by simpa [PyData.hasDict] using g4, by simp only [PyData.depth]; omega, by simpa [PyData.leavesShort] using g6, by simp only [PyData.weight]; omega⟩
end Mi
set_option Elab.async false
set_option linter.all false
set_option maxRecDepth 100000
namespace Mi
open PySem PySem.Spec PyProof.Rows L2
section
variable {κ α : Type} [DecidableEq κ]
def getG (kvs : List (κ × α)) (k : κ) : Option α := (kvs.find? fun kv => decide (kv.1 = k)).map (·.2)
def putG (kvs : List (κ × α)) (k : κ) (v : α) : List (κ × α) := if (kvs.any fun kv => decide (kv.1 = k)) = true then kvs.map (fun kv => if kv.1 = k then (kv.1, v) else kv) else kvs ++ [(k, v)]
def dropG (kvs : List (κ × α)) (k : κ) : List (κ × α) := kvs.filter fun kv => decide (kv.1 ≠ k)
end
def keyD : D → Option Key
  | .int i => some (.inl i)
  | .str s => some (.inr s)
  | _ => none
def keyDs : List D → Option (List Key)
  | [] => some []
  | d :: ds => match keyD d, keyDs ds with
    | some k, some ks => some (k :: ks)
    | _, _ => none
def keyT : D → Option (List Key)
  | .tup ds => keyDs ds
  | _ => none
/-- a dict's content -/
def dcont (x : D) (z : Z) : Option D := match x with
  | .dk kvs => some (.dk kvs)
  | .dt kvs => some (.dt kvs)
  | .ref n => match z.h[n]? with
    | some (.dk kvs) => some (.dk kvs)
    | some (.dt kvs) => some (.dt kvs)
    | _ => none
  | .own i => match z.s[i]? with
    | some (.own (.dk kvs)) => some (.dk kvs)
    | some (.own (.dt kvs)) => some (.dt kvs)
    | _ => none
  | _ => none
def dgetC (c key : D) : Option (Option D) := match c with
  | .dk kvs => match keyD key with
    | some k => some (getG kvs k)
    | none => none
  | .dt kvs => match keyT key with
    | some k => some (getG kvs k)
    | none => none
  | _ => none
def dputC (c key v : D) : Option D := match c with
  | .dk kvs => match keyD key with
    | some k => if kvs.length < szl then some (.dk (putG kvs k v)) else none
    | none => none
  | .dt kvs => match keyT key with
    | some k => if kvs.length < szl then some (.dt (putG kvs k v)) else none
    | none => none
  | _ => none
def dget (x key : D) (z : Z) : Option (Option D) := match dcont x z with
  | some c => dgetC c key
  | none => none
namespace O
def dix (x y : D) (z : Z) : Option D := match dget x y z with
  | some o => o
  | none => none
def din (x y : D) (z : Z) : Option D := match dget y x z with
  | some o => some (.bl o.isSome)
  | none => none
def dnotIn (x y : D) (z : Z) : Option D := match dget y x z with
  | some o => some (.bl (!o.isSome))
  | none => none
end O
namespace E
/-- d.get(k) -/
def get1 (a b : M D) : M D := bnd a fun x z => if (dcont x z).isSome = true then bnd b (fun y z => match dget x y z with
  | some o => some (o.getD .non, z)
  | none => none) z else none
def get2 (a b c : M D) : M D := bnd a fun x z => if (dcont x z).isSome = true then bnd b (fun y => bnd c fun w z => if isPure w = true then match dget x y z with
  | some o => some (o.getD w, z)
  | none => none
  else none) z else none
/-- .. joins the shared heap -/
def shrN (m : M D) : M D := bnd m fun d z => some (.ref z.h.length, ⟨z.s, z.h ++ [d]⟩)
end E
namespace C
def dput (a k e : M D) : C := bnd e fun v => bnd a fun x => bnd k fun y z => if isPure v = true then match x with
    | .own i => match z.s[i]? with
      | some (.own c) => match dputC c y v with
        | some c' => some (.nx, ⟨z.s.set i (.own c'), z.h⟩)
        | none => none
      | _ => none
    | .ref n => match z.h[n]? with
      | some c => match dputC c y v with
        | some c' => some (.nx, ⟨z.s, z.h.set n c'⟩)
        | none => none
      | _ => none
    | _ => none
  else none
/-- the slot owns a new object -/
def ownN (i : Nat) (m : M D) : C := bnd m fun d z => if i < z.s.length then some (.nx, ⟨z.s.set i (.own d), z.h⟩) else none
def isDict : D → Bool
  | .dk _ => true
  | .dt _ => true
  | _ => false
/-- the slot's dict is not changed any more -/
def frzD (i : Nat) : C := fun z => match z.s[i]? with
  | some (.own d) => if isDict d = true then some (.nx, ⟨z.s.set i (.val d), z.h⟩) else none
  | _ => none
/-- return the slot's own dict -/
def retD (e : M D) : C := bnd e fun d z => match d with
  | .own i => match z.s[i]? with
    | some (.own d) => if isDict d = true then some (.rt d, ⟨z.s.set i .no, z.h⟩) else none
    | _ => none
  | _ => none
end C
def Rk (K : Kx) (F : Hp) (rho : List Addr) {κ : Type} (kvs : List (κ × D)) (es : List (κ × V)) : Prop := es.map Prod.fst = kvs.map Prod.fst ∧ Rps K F rho (kvs.map Prod.snd) (es.map Prod.snd)
section
variable {K : Kx} {F : Hp} {rho : List Addr} {κ : Type} [DecidableEq κ]
theorem Rk.length {kvs : List (κ × D)} {es : List (κ × V)} (r : Rk K F rho kvs es) : es.length = kvs.length := by
  have := congrArg List.length r.1
  simpa using this
theorem Rk.uncons {p : κ × D} {kvs : List (κ × D)} {es : List (κ × V)} (r : Rk K F rho (p :: kvs) es) : ∃ v es', es = (p.1, v) :: es' ∧ Rp K F rho p.2 v ∧ Rk K F rho kvs es' := by
  obtain ⟨h1, h2⟩ := r
  cases es with
  | nil => simp at h1
  | cons e es =>
    obtain ⟨k, v⟩ := e
    simp only [List.map_cons, List.cons.injEq] at h1
    simp only [List.map_cons] at h2
    cases h2 with
    | cons a b => exact ⟨v, es, by rw [← h1.1], a, h1.2, b⟩
theorem Rk.cons {k : κ} {d : D} {v : V} {kvs : List (κ × D)} {es : List (κ × V)} (a : Rp K F rho d v) (r : Rk K F rho kvs es) : Rk K F rho ((k, d) :: kvs) ((k, v) :: es) :=
  ⟨by simp only [List.map_cons, r.1], by simp only [List.map_cons]; exact .cons a r.2⟩
theorem Rk.nil : Rk K F rho ([] : List (κ × D)) [] := ⟨rfl, .nil⟩
theorem Rk.get (k : κ) : ∀ {kvs : List (κ × D)} {es : List (κ × V)}, Rk K F rho kvs es → (getG kvs k = none ∧ valV es k = none) ∨ ∃ d v, getG kvs k = some d ∧ valV es k = some v ∧ Rp K F rho d v
  | [], es, r => by
    have := r.length
    cases es with
    | nil => exact .inl ⟨rfl, rfl⟩
    | cons _ _ => simp at this
  | (j, d) :: kvs, es, r => by
    obtain ⟨v, es', rfl, h1, h2⟩ := r.uncons
    by_cases c : j = k
    · exact .inr ⟨d, v, by simp [getG, List.find?_cons, c], valV_pos c, h1⟩
    · have e1 : getG ((j, d) :: kvs) k = getG kvs k := by simp [getG, List.find?_cons, c]
      rw [e1, valV_neg c]
      exact Rk.get k h2
theorem Rk.append {kvs kvs2 : List (κ × D)} {es es2 : List (κ × V)} (r : Rk K F rho kvs es) (r2 : Rk K F rho kvs2 es2) : Rk K F rho (kvs ++ kvs2) (es ++ es2) :=
  ⟨by rw [List.map_append, List.map_append, r.1, r2.1], by rw [List.map_append, List.map_append]; exact r.2.append r2.2⟩
theorem Rk.drop (k : κ) : ∀ {kvs : List (κ × D)} {es : List (κ × V)}, Rk K F rho kvs es → Rk K F rho (dropG kvs k) (dropK es k)
  | [], es, r => by
    have := r.length
    cases es with
    | nil => exact .nil
    | cons _ _ => simp at this
  | (j, d0) :: kvs, es, r => by
    obtain ⟨v0, es', rfl, h1, h2⟩ := r.uncons
    have ih := Rk.drop k h2
    unfold dropG dropK at ih ⊢
    rw [List.filter_cons, List.filter_cons]
    by_cases c : j = k
    · simpa [c] using ih
    · have e1 : (decide ((j, d0).1 ≠ k)) = true := decide_eq_true c
      have e2 : (decide ((j, v0).1 ≠ k)) = true := decide_eq_true c
      rw [if_pos e1, if_pos e2]
      exact .cons h1 ih
end
section
variable {X : Cx} {Tb : Tbs}
abbrev rN (K : Kx) : RelT D V := fun B F rho om H d v => ∃ p, v = .ref p ∧ Fresh K B F rho om H p ∧ Ob K F rho H p d
abbrev Tn (K : Kx) (m : M D) : TE := Tx K (rN K) m
end
end Mi
set_option Elab.async false
set_option linter.all false
set_option maxRecDepth 100000
namespace Mi
open PySem PySem.Spec PyProof.Rows L2 PySem.W
namespace E
def frzD (m : M D) : M D := bnd m fun d => if C.isDict d = true then Mi.ret d else fun _ => none
end E
namespace E
def pairs : List (M D × M D) → M (List (Key × D))
  | [] => Mi.ret []
  | (a, b) :: r => bnd a fun x => bnd b fun y => bnd (pairs r) fun ps => match keyD x with
    | some k => if isPure y = true then Mi.ret ((k, y) :: ps) else fun _ => none
    | none => fun _ => none
end E
def mergeG {κ α : Type} [DecidableEq κ] (kvs more : List (κ × α)) : List (κ × α) := more.foldl (fun acc kv => putG acc kv.1 kv.2) kvs
namespace N
def dispK (prs : List (M D × M D)) : M D := bnd (E.pairs prs) fun ps => Mi.ret (.dk (mergeG [] ps))
end N
theorem Rk.mono {K : Kx} {F F' : Hp} {rho rho' : List Addr} {κ : Type} {kvs : List (κ × D)} {es : List (κ × V)} (s : Same F F') (p : rho <+: rho') (r : Rk K F rho kvs es) : Rk K F' rho' kvs es := ⟨r.1, r.2.mono s p⟩
def dkey : Key → D
  | .inl i => .int i
  | .inr s => .str s
/-- the keys, as values -/
def dkeys : D → Option (List D)
  | .dk kvs => some (kvs.map fun e => dkey e.1)
  | .dt kvs => some (kvs.map fun e => .tup (e.1.map dkey))
  | _ => none
namespace N
def sortedD (m : M D) : M (List D) := bnd m fun x z => match dkeys x with
  | some ks => if ks.length ≤ szl ∧ srtOk (ks.map pk) = true then some (srt pk ks, z) else none
  | none => none
/-- xs[::-1] -/
def rev (m : M D) : M (List D) := bnd m fun x z => match cont x z with
  | some (false, ds) => some (ds.reverse, z)
  | _ => none
end N
namespace I
/-- for k in d, the dict laid down -/
def seqK (a : M D) : M It := bnd a fun x z => match dkeys x with
  | some ks => some (⟨ks, none⟩, z)
  | none => none
end I
namespace E
/-- t[lo:hi], not the whole of it -/
def cutT (a : M D) (lo hi : Option (M D)) : M D := bnd a fun x => bnd (N.part lo) fun l => bnd (N.part hi) fun u z => match x with
  | .tup ds => if HT.sIx ds.length 0 l = 0 ∧ HT.sIx ds.length ds.length u = ds.length then none else some (.tup (N.cutL ds l u), z)
  | _ => none
end E
namespace O
/-- t + u, neither empty -/
def catT : D → D → Z → Option D
  | .tup ds, .tup es, _ => if ds ≠ [] ∧ es ≠ [] ∧ ds.length + es.length < szl then some (.tup (ds ++ es)) else none
  | _, _, _ => none
end O
end Mi
set_option Elab.async false
set_option linter.all false
set_option maxRecDepth 100000
namespace Mi
open PySem PySem.Spec PyProof.Rows L2
section
variable {z z1 z2 z3 : Z} {a b c e : M D} {x y w d cc : D} {s s' : List Sl} {h h' : List D} {o : Option D}
theorem ev_dix (h1 : a z = some (x, z1)) (h2 : b z1 = some (y, z2)) (h3 : dcont x z2 = some cc) (h4 : dgetC cc y = some (some d)) : E.op O.dix a b z = some (d, z2) := ev_op h1 h2 (by unfold O.dix dget; rw [h3]; dsimp only; rw [h4])
theorem ev_din (h1 : a z = some (x, z1)) (h2 : b z1 = some (y, z2)) (h3 : dcont y z2 = some cc) (h4 : dgetC cc x = some o) : E.op O.din a b z = some (.bl o.isSome, z2) := ev_op h1 h2 (by unfold O.din dget; rw [h3]; dsimp only; rw [h4])
theorem ev_dnotIn (h1 : a z = some (x, z1)) (h2 : b z1 = some (y, z2)) (h3 : dcont y z2 = some cc) (h4 : dgetC cc x = some o) : E.op O.dnotIn a b z = some (.bl (!o.isSome), z2) := ev_op h1 h2 (by unfold O.dnotIn dget; rw [h3]; dsimp only; rw [h4])
theorem ev_get1 (h1 : a z = some (x, z1)) (h0 : (dcont x z1).isSome = true) (h2 : b z1 = some (y, z2)) (h3 : dcont x z2 = some cc) (h4 : dgetC cc y = some o) : E.get1 a b z = some (o.getD .non, z2) := by
  unfold E.get1
  rw [bnd_of h1]
  try dsimp only
  rw [if_pos h0, bnd_of h2]
  unfold dget
  rw [h3]
  dsimp only
  rw [h4]
theorem ev_get2 (h1 : a z = some (x, z1)) (h0 : (dcont x z1).isSome = true) (h2 : b z1 = some (y, z2)) (h5 : c z2 = some (w, z3)) (hw : isPure w = true) (h3 : dcont x z3 = some cc) (h4 : dgetC cc y = some o) : E.get2 a b c z = some (o.getD w, z3) := by
  unfold E.get2
  rw [bnd_of h1]
  try dsimp only
  rw [if_pos h0, bnd_of h2, bnd_of h5, if_pos hw]
  unfold dget
  rw [h3]
  dsimp only
  rw [h4]
theorem ev_shrN {m : M D} (h1 : m z = some (d, ⟨s, h⟩)) : E.shrN m z = some (.ref h.length, ⟨s, h ++ [d]⟩) := by
  unfold E.shrN
  rw [bnd_of h1]
theorem ev_frzD {m : M D} (h1 : m z = some (d, z1)) (h2 : C.isDict d = true) : E.frzD m z = some (d, z1) := by
  unfold E.frzD
  rw [bnd_of h1, if_pos h2]
  rfl
theorem ev_pairs0 : E.pairs [] z = some ([], z) := rfl
theorem ev_pairs {r : List (M D × M D)} {k : Key} {ps : List (Key × D)} (h1 : a z = some (x, z1)) (h2 : b z1 = some (y, z2)) (h3 : E.pairs r z2 = some (ps, z3)) (hk : keyD x = some k) (hp : isPure y = true) : E.pairs ((a, b) :: r) z = some ((k, y) :: ps, z3) := by
  show bnd a _ z = _
  rw [bnd_of h1, bnd_of h2, bnd_of h3, hk]
  dsimp only
  rw [if_pos hp]
  rfl
theorem ev_dispK {prs : List (M D × M D)} {ps : List (Key × D)} (h1 : E.pairs prs z = some (ps, z1)) : N.dispK prs z = some (.dk (mergeG [] ps), z1) := by
  unfold N.dispK
  rw [bnd_of h1]
  rfl
theorem ev_sortedD {ks : List D} (h1 : a z = some (x, z1)) (h2 : dkeys x = some ks) (h3 : ks.length ≤ szl) (h4 : srtOk (ks.map pk) = true) : N.sortedD a z = some (srt pk ks, z1) := by
  unfold N.sortedD
  rw [bnd_of h1, h2]
  dsimp only
  rw [if_pos ⟨h3, h4⟩]
theorem ev_rev {ds : List D} (h1 : a z = some (x, z1)) (h2 : cont x z1 = some (false, ds)) : N.rev a z = some (ds.reverse, z1) := by
  unfold N.rev
  rw [bnd_of h1, h2]
theorem ev_cutT {lo hi : Option (M D)} {l u : Option Int} {ds : List D} (h1 : a z = some (.tup ds, z1)) (h2 : N.part lo z1 = some (l, z2)) (h3 : N.part hi z2 = some (u, z3)) (h4 : ¬ (HT.sIx ds.length 0 l = 0 ∧ HT.sIx ds.length ds.length u = ds.length)) : E.cutT a lo hi z = some (.tup (N.cutL ds l u), z3) := by
  unfold E.cutT
  rw [bnd_of h1, bnd_of h2, bnd_of h3]
  dsimp only
  rw [if_neg h4]
theorem ev_catT {ds es : List D} (h1 : a z = some (.tup ds, z1)) (h2 : b z1 = some (.tup es, z2)) (h3 : ds ≠ []) (h4 : es ≠ []) (h5 : ds.length + es.length < szl) : E.op O.catT a b z = some (.tup (ds ++ es), z2) := ev_op h1 h2 (by unfold O.catT; exact if_pos ⟨h3, h4, h5⟩)
theorem ev_seqK {ks : List D} (h1 : a z = some (x, z1)) (h2 : dkeys x = some ks) : I.seqK a z = some (⟨ks, none⟩, z1) := by
  unfold I.seqK
  rw [bnd_of h1, h2]
theorem lf_dcont {r : Option D} (q : dcont x z = r) : dcont x z = r := q
theorem lf_dcS {r : Bool} (q : (dcont x z).isSome = r) : (dcont x z).isSome = r := q
theorem lf_dgetC {r : Option (Option D)} (q : dgetC x y = r) : dgetC x y = r := q
theorem lf_keyD {r : Option Key} (q : keyD x = r) : keyD x = r := q
theorem lf_isDict {r : Bool} (q : C.isDict x = r) : C.isDict x = r := q
theorem lf_dkeys {r : Option (List D)} (q : dkeys x = r) : dkeys x = r := q
theorem cs_dputO {n : Nat} {c' v : D} (h1 : e z = some (v, z1)) (h2 : a z1 = some (.own n, z2)) (h3 : b z2 = some (y, ⟨s, h⟩)) (h4 : s[n]? = some (.own cc)) (h5 : dputC cc y v = some c') (hp : isPure v = true) (hs : s.set n (.own c') = s') : C.dput a b e z = some (.nx, ⟨s', h⟩) := by
  subst hs
  unfold C.dput
  rw [bnd_of h1, bnd_of h2, bnd_of h3, if_pos hp]
  dsimp only
  rw [h4]
  dsimp only
  rw [h5]
theorem cs_ownD {n : Nat} {m : M D} (h1 : m z = some (d, ⟨s, h⟩)) (hl : n < s.length) (hs : s.set n (.own d) = s') : C.ownN n m z = some (.nx, ⟨s', h⟩) := by
  subst hs
  unfold C.ownN
  rw [bnd_of h1]
  exact if_pos hl
theorem cs_frzD {n : Nat} (h1 : s[n]? = some (.own d)) (h2 : C.isDict d = true) (hs : s.set n (.val d) = s') : C.frzD n ⟨s, h⟩ = some (.nx, ⟨s', h⟩) := by
  subst hs
  unfold C.frzD
  dsimp only
  rw [h1]
  dsimp only
  rw [if_pos h2]
theorem cs_retD {n : Nat} (h1 : e z = some (.own n, ⟨s, h⟩)) (h2 : s[n]? = some (.own d)) (h3 : C.isDict d = true) : C.retD e z = some (.rt d, ⟨s.set n .no, h⟩) := by
  unfold C.retD
  rw [bnd_of h1]
  dsimp only
  rw [h2]
  dsimp only
  rw [if_pos h3]
/-- equal data are equal -/
theorem eqP_self {x y : D} {p : PyData} (h1 : O.toP (O.snap x z) = some p) (h2 : O.toP (O.snap y z) = some p) (h3 : SeqAt.shaped p = true) : O.eqP x y z = some true := by
  have e : O.eqD x y z = some true := by
    unfold O.eqD
    rw [h1, h2]
    dsimp only
    have h4 : p.canLay0 = true := by
      unfold SeqAt.shaped at h3
      simp only [Bool.and_eq_true] at h3
      exact h3.1
    rw [if_pos ⟨h3, h3⟩, SeqAt.eqv_refl _ h4]
  unfold O.eqP
  split
  · rename_i a b
    have h1 : some (PyData.str a) = some p := h1
    have h2 : some (PyData.str b) = some p := h2
    rw [← h1] at h2
    cases h2
    simp
  · exact e
end
def Shd (d : D) (dep : Nat) : Prop := ∃ p, O.toP d = some p ∧ p.canLay0 = true ∧ p.depth ≤ dep
theorem Shd.mono {d : D} {a b : Nat} (h : Shd d a) (hab : a ≤ b) : Shd d b := by
  obtain ⟨p, h1, h2, h3⟩ := h
  exact ⟨p, h1, h2, Nat.le_trans h3 hab⟩
theorem Shd.int {i : Int} {n : Nat} : Shd (.int i) n := ⟨.int i, rfl, by simp [PyData.canLay0], by simp [PyData.depth]⟩
theorem Shd.bl {i : Bool} {n : Nat} : Shd (.bl i) n := ⟨.bool i, rfl, by simp [PyData.canLay0], by simp [PyData.depth]⟩
theorem Shd.non {n : Nat} : Shd .non n := ⟨.none, rfl, by simp [PyData.canLay0], by simp [PyData.depth]⟩
def ShdAll (ds : List D) (dep : Nat) : Prop := ∃ ps, O.toPs ds = some ps ∧ PyData.canLayAll0 ps = true ∧ PyData.depthAll ps ≤ dep
theorem ShdAll.of {dep : Nat} : ∀ {ds : List D}, (∀ d ∈ ds, Shd d dep) → ShdAll ds dep
  | [], _ => ⟨[], rfl, by simp [PyData.canLayAll0], by simp [PyData.depthAll]⟩
  | d :: ds, h => by
    obtain ⟨p, h1, h2, h3⟩ := h d List.mem_cons_self
    obtain ⟨ps, g1, g2, g3⟩ := ShdAll.of (ds := ds) fun x hx => h x (List.mem_cons_of_mem _ hx)
    refine ⟨p :: ps, by rw [O.toPs, h1, g1], by simp [PyData.canLayAll0, h2, g2], ?_⟩
    simp only [PyData.depthAll]
    omega
theorem Shd.lst {ds : List D} {dep : Nat} (h : ∀ d ∈ ds, Shd d dep) : Shd (.lst ds) (dep + 1) := by
  obtain ⟨ps, g1, g2, g3⟩ := ShdAll.of h
  refine ⟨.list ps, by rw [O.toP, g1]; rfl, by simpa [PyData.canLay0] using g2, ?_⟩
  simp only [PyData.depth]
  omega
theorem Shd.tup {ds : List D} {dep : Nat} (h : ∀ d ∈ ds, Shd d dep) : Shd (.tup ds) (dep + 1) := by
  obtain ⟨ps, g1, g2, g3⟩ := ShdAll.of h
  refine ⟨.tuple ps, by rw [O.toP, g1]; rfl, by simpa [PyData.canLay0] using g2, ?_⟩
  simp only [PyData.depth]
  omega
/-- x == x -/
theorem Shd.eqP {x y d : D} {z : Z} (h : Shd d 64) (hx : O.snap x z = d) (hy : O.snap y z = d) : O.eqP x y z = some true := by
  obtain ⟨p, h1, h2, h3⟩ := h
  exact eqP_self (p := p) (by rw [hx, h1]) (by rw [hy, h1]) (by unfold SeqAt.shaped; rw [h2, decide_eq_true h3]; rfl)
end Mi
set_option Elab.async false
set_option linter.all false
set_option maxRecDepth 100000
namespace Mi
open PySem L2
section
variable {x y d : D} {z z1 z2 z3 : Z} {s s' s2 : List Sl} {h h2 : List D}
theorem Rep.str {s : Str} {n : Nat} (h1 : (s.cps.toList.all fun c => decide (c < 16 ^ 8)) = true) (h2 : s.cps.size ≤ n) : Rep (.str s) 0 n :=
  ⟨.str s, rfl, by simp [PyData.showable], by simp [PyData.hasDict], by simp [PyData.depth], by rw [PyData.leavesShort]; exact h1, by simpa [PyData.weight] using h2⟩
theorem Shd.str {s : Str} {n : Nat} (h : (PyData.str s).canLay0 = true) : Shd (.str s) n := ⟨.str s, rfl, h, by simp [PyData.depth]⟩
end
namespace Dr
noncomputable section
@[reducible] def st_law_pick_1 : C := (C.ret (E.op O.ix (E.var 1) (E.call m_law_draw [(E.var 0), (E.blt F.len [(E.var 1)])])))
def b_law_pick : C := st_law_pick_1
def m_law_pick : Fn := fn 2 2 b_law_pick
end
end Dr
end Mi
set_option Elab.async false
set_option linter.all false
set_option maxRecDepth 100000
namespace Mi
open PySem PySem.W PySem.Spec PyProof.Rows L2
end Mi
set_option Elab.async false
set_option linter.all false
set_option maxRecDepth 100000
namespace Mi
open PySem PySem.W PySem.Spec PyProof.Rows L2
/-- a field stored: in its place, or behind -/
def putFD (f : Str) (d : D) : List (Str × D) → List (Str × D)
  | [] => [(f, d)]
  | (k, x) :: r => if k = f then (k, d) :: r else (k, x) :: putFD f d r
/-- what is never come to -/
def C.never : C := fun _ => none
section
variable {X : Cx} {Tb : Tbs}
variable {K : Kx} {F : Hp} {rho : List Addr}
theorem rps_lookup {f : Str} : ∀ {fs : List (Str × D)} {es : List (Str × V)} {d : D}, es.map Prod.fst = fs.map Prod.fst → Rps K F rho (fs.map Prod.snd) (es.map Prod.snd) → fs.lookup f = some d → ∃ v, es.lookup f = some v ∧ Rp K F rho d v
  | [], es, d, _, _, h => by cases h
  | (k, x) :: fs, es, d, hk, r, h => by
    cases es with
    | nil => cases hk
    | cons e es =>
      obtain ⟨k2, v⟩ := e
      rw [List.map_cons, List.map_cons, List.cons.injEq] at hk
      obtain ⟨hk1, hk2⟩ := hk
      have hk1 : k2 = k := hk1
      subst hk1
      rw [List.map_cons, List.map_cons] at r
      cases r with
      | cons r1 r2 =>
        rw [List.lookup_cons] at h ⊢
        cases c : (f == k2) with
        | true =>
          rw [c] at h
          cases h
          exact ⟨v, rfl, r1⟩
        | false =>
          rw [c] at h
          exact rps_lookup hk2 r2 h
theorem rps_putF {f : Str} {d : D} {v : V} (rv : Rp K F rho d v) : ∀ {fs : List (Str × D)} {es : List (Str × V)}, es.map Prod.fst = fs.map Prod.fst → Rps K F rho (fs.map Prod.snd) (es.map Prod.snd) → (putF f v es).map Prod.fst = (putFD f d fs).map Prod.fst ∧ Rps K F rho ((putFD f d fs).map Prod.snd) ((putF f v es).map Prod.snd)
  | [], es, hk, r => by
    cases es with
    | nil => exact ⟨rfl, .cons rv .nil⟩
    | cons e es => cases hk
  | (k, x) :: fs, es, hk, r => by
    cases es with
    | nil => cases hk
    | cons e es =>
      obtain ⟨k2, w⟩ := e
      rw [List.map_cons, List.map_cons, List.cons.injEq] at hk
      obtain ⟨hk1, hk2⟩ := hk
      have hk1 : k2 = k := hk1
      subst hk1
      rw [List.map_cons, List.map_cons] at r
      cases r with
      | cons r1 r2 =>
        unfold putF putFD
        by_cases c : k2 = f
        · rw [if_pos c, if_pos c]
          rw [List.map_cons, List.map_cons, List.map_cons, List.map_cons]
          exact ⟨by rw [hk2], .cons rv r2⟩
        · rw [if_neg c, if_neg c]
          obtain ⟨h1, h2⟩ := rps_putF rv hk2 r2
          rw [List.map_cons, List.map_cons, List.map_cons, List.map_cons]
          exact ⟨by rw [h1], .cons r1 h2⟩
end
end Mi
set_option Elab.async false
set_option linter.all false
set_option maxRecDepth 100000
namespace Mi
open PySem L2
@[reducible] def eI (i : Int) : D := .int i
@[reducible] def eB (b : Bool) : D := .bl b
@[reducible] def eN (_ : Unit) : D := .non
@[reducible] def eD (d : D) : D := d
def eO {α : Type} (e : α → D) : Option α → D
  | none => .non
  | some x => e x
section
variable {α β γ δ ε ζ η θ ι κ : Type}
@[reducible] def eL (e : α → D) (xs : List α) : D := .lst (xs.map e)
@[reducible] def eU (e : α → D) (xs : List α) : D := .tup (xs.map e)
@[reducible] def e1 (a : α → D) (p : α) : D := .tup [a p]
@[reducible] def e2 (a : α → D) (b : β → D) (p : α × β) : D := .tup [a p.1, b p.2]
@[reducible] def e3 (a : α → D) (b : β → D) (c : γ → D) (p : α × β × γ) : D := .tup [a p.1, b p.2.1, c p.2.2]
@[reducible] def e4 (a : α → D) (b : β → D) (c : γ → D) (d : δ → D) (p : α × β × γ × δ) : D := .tup [a p.1, b p.2.1, c p.2.2.1, d p.2.2.2]
@[reducible] def e5 (a : α → D) (b : β → D) (c : γ → D) (d : δ → D) (e : ε → D) (p : α × β × γ × δ × ε) : D := .tup [a p.1, b p.2.1, c p.2.2.1, d p.2.2.2.1, e p.2.2.2.2]
@[reducible] def e6 (a : α → D) (b : β → D) (c : γ → D) (d : δ → D) (e : ε → D) (f : ζ → D) (p : α × β × γ × δ × ε × ζ) : D := .tup [a p.1, b p.2.1, c p.2.2.1, d p.2.2.2.1, e p.2.2.2.2.1, f p.2.2.2.2.2]
@[reducible] def e7 (a : α → D) (b : β → D) (c : γ → D) (d : δ → D) (e : ε → D) (f : ζ → D) (g : η → D) (p : α × β × γ × δ × ε × ζ × η) : D := .tup [a p.1, b p.2.1, c p.2.2.1, d p.2.2.2.1, e p.2.2.2.2.1, f p.2.2.2.2.2.1, g p.2.2.2.2.2.2]
/-- written tuples -/
@[reducible] def k2 (a : α → D) (b : β → D) (p : α × β) : D := .kt [a p.1, b p.2]
@[reducible] def k3 (a : α → D) (b : β → D) (c : γ → D) (p : α × β × γ) : D := .kt [a p.1, b p.2.1, c p.2.2]
end
namespace Pl
section
variable {α β γ σ ρ : Type}
def mul (i j : Int) : Option Int := if i.natAbs < 2 ^ bigN ∧ j.natAbs < 2 ^ bigN then some (i * j) else none
def div (i j : Int) : Option Int := if 0 < j ∧ j.natAbs < 2 ^ bigN then some (i / j) else none
def mod (i j : Int) : Option Int := if 0 < j then some (i % j) else none
def app (xs : List α) (x : α) : Option (List α) := if xs.length < szl then some (xs ++ [x]) else none
def cat (xs ys : List α) : Option (List α) := if xs.length + ys.length < szl then some (xs ++ ys) else none
def at_ (xs : List α) (i : Int) : Option α := atI xs i
def rng (a b : Int) : List Int := (List.range (b - a).toNat).map fun i : Nat => a + (i : Int)
def rngO (a b : Int) : Option (List Int) := if (-(2 ^ 62) ≤ a ∧ a < 2 ^ 62) ∧ -(2 ^ 62) ≤ b ∧ b < 2 ^ 62 then some (rng a b) else none
def andO (p : Bool) (o : Option Bool) : Option Bool := if p = true then o else some false
def orO (p : Bool) (o : Option Bool) : Option Bool := if p = true then some true else o
/-- a comprehension -/
def cmp (t : α → Option Bool) (f : α → Option β) : List α → Option (List β)
  | [] => some []
  | x :: xs => (t x).bind fun b => if b = true then (f x).bind fun y => (cmp t f xs).bind fun ys => some (y :: ys) else cmp t f xs
def comp (t : α → Option Bool) (f : α → Option β) (xs : List α) : Option (List β) := if xs.length ≤ szl then cmp t f xs else none
inductive Out (σ ρ : Type) where
  | go (s : σ) | brk (s : σ) | ret (r : ρ)
/-- for, without an exit -/
def forN (f : α → σ → Option σ) : List α → σ → Option σ
  | [], s => some s
  | x :: xs, s => (f x s).bind fun s => forN f xs s
/-- for, with exits -/
def forO (f : α → σ → Option (Out σ ρ)) : List α → σ → Option (σ ⊕ ρ)
  | [], s => some (.inl s)
  | x :: xs, s => match f x s with
    | none => none
    | some (.go s) => forO f xs s
    | some (.brk s) => some (.inl s)
    | some (.ret r) => some (.inr r)
def whO (t : σ → Option Bool) (f : σ → Option (Out σ ρ)) (s : σ) : Option (σ ⊕ ρ) := match t s with
  | none => none
  | some false => some (.inl s)
  | some true => match f s with
    | none => none
    | some (.go s) => whO t f s
    | some (.brk s) => some (.inl s)
    | some (.ret r) => some (.inr r)
partial_fixpoint
def draw (s : DS) (many : Int) : Option (Int × DS) := if 0 < many ∧ many ≤ 1000000000000 then some (drawV s many, drawS s many) else none
def take (s : TS) (many : Int) : Option (Int × TS) := if 0 < many then some (takeV s many, takeS s) else none
end
end Pl
def Rf {α : Type} (o : Option α) (c : C) (z : Z) (Φ : α → Fl → Z → Prop) : Prop := ∀ r, o = some r → ∃ f z', c z = some (f, z') ∧ Φ r f z'
theorem bI {α β : Type} {o : Option α} {K : α → Option β} {r : β} (h : o.bind K = some r) : ∃ t, o = some t ∧ K t = some r := by
  cases o with
  | none => cases h
  | some t => exact ⟨t, rfl, h⟩
section
variable {α β γ σ ρ : Type} {o : Option α} {c a b rest : C} {z z1 z2 : Z} {s s' s2 : List Sl} {h h1 : List D} {Φ Ψ : α → Fl → Z → Prop}
theorem Rf.imp (k : Rf o c z Ψ) (i : ∀ r f z, Ψ r f z → Φ r f z) : Rf o c z Φ := fun r e => by
  obtain ⟨f, z', e1, q⟩ := k r e
  exact ⟨f, z', e1, i r f z' q⟩
theorem Rf.bd {o : Option β} {K : β → Option α} (k : ∀ t, o = some t → Rf (K t) c z Φ) : Rf (o.bind K) c z Φ := fun r e => by
  obtain ⟨t, e1, e2⟩ := bI e
  exact k t e1 r e2
theorem seq_nx {a b : C} {z z1 : Z} (h : a z = some (.nx, z1)) : C.seq a b z = b z1 := by unfold C.seq; rw [h]
theorem Rf.nx (h1 : a z = some (.nx, z1)) (k : Rf o rest z1 Φ) : Rf o (C.seq a rest) z Φ := fun r e => by
  obtain ⟨f, z', e1, q⟩ := k r e
  exact ⟨f, z', by rw [seq_nx h1]; exact e1, q⟩
theorem Rf.skip (k : Rf o c z Φ) : Rf o (C.seq C.skip c) z Φ := k.nx rfl
theorem seq_skip (a : C) : C.seq a C.skip = a := by
  funext z
  unfold C.seq C.skip
  split
  · rename_i z1 h; rw [h]
  · rfl
theorem seq_assoc (a b c : C) : C.seq (C.seq a b) c = C.seq a (C.seq b c) := by
  funext z
  unfold C.seq
  cases h : a z with
  | none => rfl
  | some p =>
    obtain ⟨f, z1⟩ := p
    cases f <;> rfl
theorem Rf.last (k : Rf o (C.seq c C.skip) z Φ) : Rf o c z Φ := by rw [seq_skip] at k; exact k
theorem Rf.assoc (k : Rf o (C.seq a (C.seq b c)) z Φ) : Rf o (C.seq (C.seq a b) c) z Φ := by rw [seq_assoc]; exact k
theorem Rf.fin {r : α} (q : Φ r .nx z) : Rf (some r) C.skip z Φ := fun r' e => by cases e; exact ⟨_, _, rfl, q⟩
/-- x = e, by its value's name -/
theorem Rf.setT {i : Nat} {m : M D} {t : β} {K : β → Option α} (e : β → D) (he : m z = some (e t, ⟨s, h⟩)) (hp : ∀ x, isPure (e x) = true) {s' : β → List Sl} (hs : ∀ x, s.set i (.val (e x)) = s' x) (k : ∀ x, Rf (K x) rest ⟨s' x, h⟩ Φ) : Rf ((some t).bind K) (C.seq (C.set i m) rest) z Φ :=
  (k t).nx (cs_setN he (hp t) (hs t))
theorem Rf.set0 {i : Nat} {m : M D} {d : D} (he : m z = some (d, ⟨s, h⟩)) (hp : isPure d = true) (hs : s.set i (.val d) = s') (k : Rf o rest ⟨s', h⟩ Φ) : Rf o (C.seq (C.set i m) rest) z Φ :=
  k.nx (cs_setN he hp hs)
theorem Rf.asg0 {g : G} {m : M D} {d : D} (he : m z = some (d, z1)) (hp : isPure d = true) (hg : g.run d z1 = some z2) (k : Rf o rest z2 Φ) : Rf o (C.seq (C.asg g m) rest) z Φ :=
  k.nx (cs_asg he hp hg)
theorem Rf.own0 {i : Nat} {m : M (List D)} {ds : List D} (he : m z = some (ds, ⟨s, h⟩)) (hn : i < s.length) (hs : s.set i (.own (.lst ds)) = s') (k : Rf o rest ⟨s', h⟩ Φ) : Rf o (C.seq (C.own i m) rest) z Φ :=
  k.nx (cs_ownN he hn hs)
theorem Rf.ownT {i : Nat} {m : M (List D)} {t : List β} {K : List β → Option α} (e : β → D) (he : m z = some (t.map e, ⟨s, h⟩)) (hn : i < s.length) {s' : List β → List Sl} (hs : ∀ x : List β, s.set i (.own (.lst (x.map e))) = s' x) (k : ∀ x, Rf (K x) rest ⟨s' x, h⟩ Φ) : Rf ((some t).bind K) (C.seq (C.own i m) rest) z Φ :=
  (k t).nx (cs_ownN he hn (hs t))
theorem Rf.frz {i : Nat} {ds : List D} (h1 : s[i]? = some (.own (.lst ds))) (hs : s.set i (.val (.lst ds)) = s') (k : Rf o rest ⟨s', h⟩ Φ) : Rf o (C.seq (C.frz i) rest) ⟨s, h⟩ Φ :=
  k.nx (cs_frzN h1 hs)
theorem Rf.drop {m : M D} {d : D} (he : m z = some (d, z1)) (k : Rf o rest z1 Φ) : Rf o (C.seq (C.drop m) rest) z Φ := k.nx (cs_drop he)
theorem Rf.augT {n : Nat} {x y : D} {g : D → D → Z → Option D} {m : M D} {t : β} {K : β → Option α} (e : β → D) (hx : z.s[n]? = some (.val x)) (he : m z = some (y, ⟨s, h⟩)) (hg : g x y ⟨s, h⟩ = some (e t)) (hp : ∀ x, isPure (e x) = true) {s' : β → List Sl} (hs : ∀ x, s.set n (.val (e x)) = s' x) (k : ∀ x, Rf (K x) rest ⟨s' x, h⟩ Φ) : Rf ((some t).bind K) (C.seq (C.aug n g m) rest) z Φ := (k t).nx (cs_augN hx he hg (hp t) (hs t))
/-- xs.append(e) of a list that a slot owns -/
theorem Rf.app {i : Nat} {m : M D} {xs : List β} {t : β} {K : List β → Option α} (e : β → D) (hi : s[i]? = some (.own (.lst (xs.map e)))) (hm : m ⟨s, h⟩ = some (e t, ⟨s, h1⟩)) (hp : isPure (e t) = true) {s' : List β → List Sl} (hs : ∀ ys : List β, s.set i (.own (.lst (ys.map e))) = s' ys) (k : ∀ ys, Rf (K ys) rest ⟨s' ys, h1⟩ Φ) :
    Rf ((Pl.app xs t).bind K) (C.seq (C.drop (E.chg U.append (E.var i) [m])) rest) ⟨s, h⟩ Φ := Rf.bd fun ys hy => by
  unfold Pl.app at hy
  split at hy
  · rename_i hl
    cases hy
    refine (k (xs ++ [t])).nx (cs_drop (ev_chgN (ev_varO hi) hi (ev_args hm ev_args0 hp) hi (?_ : U.append _ _ = some (.non, (xs ++ [t]).map e)) (hs _)))
    unfold U.append
    dsimp only
    rw [if_pos (by rw [List.length_map]; exact hl), List.map_append]
    rfl
  · cases hy
/-- xs.extend(ys) -/
theorem Rf.ext {i : Nat} {m : M D} {xs t : List β} {K : List β → Option α} (e : β → D) (hi : s[i]? = some (.own (.lst (xs.map e)))) (hm : m ⟨s, h⟩ = some (.lst (t.map e), ⟨s, h1⟩)) {s' : List β → List Sl} (hs : ∀ ys : List β, s.set i (.own (.lst (ys.map e))) = s' ys) (k : ∀ ys, Rf (K ys) rest ⟨s' ys, h1⟩ Φ) :
    Rf ((Pl.cat xs t).bind K) (C.seq (C.drop (E.chg U.extend (E.var i) [m])) rest) ⟨s, h⟩ Φ := Rf.bd fun ys hy => by
  unfold Pl.cat at hy
  split at hy
  · rename_i hl
    cases hy
    refine (k (xs ++ t)).nx (cs_drop (ev_chgN (ev_varO hi) hi (ev_args hm ev_args0 rfl) hi (?_ : U.extend _ _ = some (.non, (xs ++ t).map e)) (hs _)))
    unfold U.extend
    dsimp only
    rw [if_pos (by rw [List.length_map, List.length_map]; exact hl), List.map_append]
  · cases hy
theorem Rf.ret {m : M D} {d : D} {r : α} (he : m z = some (d, z1)) (hp : isPure d = true) (q : Φ r (.rt d) z1) : Rf (some r) (C.seq (C.ret m) rest) z Φ := fun r' e => by
  cases e
  exact ⟨_, _, cs_rt (cs_ret he hp), q⟩
theorem Rf.brk {r : α} (q : Φ r .bk z) : Rf (some r) (C.seq C.brk rest) z Φ := fun r' e => by
  cases e
  exact ⟨_, _, cs_bk rfl, q⟩
theorem Rf.cnt {r : α} (q : Φ r .ct z) : Rf (some r) (C.seq C.cnt rest) z Φ := fun r' e => by
  cases e
  exact ⟨_, _, cs_ct rfl, q⟩
theorem ite_seq {t : M Bool} {p : Bool} (ht : t z = some (p, z1)) : C.seq (C.ite t a b) rest z = if p = true then C.seq a rest z1 else C.seq b rest z1 := by
  cases p with
  | true => rw [if_pos rfl]; unfold C.seq C.ite bnd; rw [ht]; rfl
  | false => rw [if_neg (by decide)]; unfold C.seq C.ite bnd; rw [ht]; rfl
theorem Rf.ite {t : M Bool} {p : Bool} {oA oB : Option α} (ht : t z = some (p, z1)) (hA : Rf oA (C.seq a rest) z1 Φ) (hB : Rf oB (C.seq b rest) z1 Φ) : Rf (if p = true then oA else oB) (C.seq (C.ite t a b) rest) z Φ := fun r e => by
  rw [ite_seq ht]
  cases p with
  | true => exact hA r e
  | false => exact hB r e
/-- a part, then on -/
theorem Rf.thn {o : Option β} {K : β → Option α} (J : β → Z → Prop) (h1 : Rf o a z fun v f z' => f = .nx ∧ J v z') (k : ∀ v z', J v z' → Rf (K v) rest z' Φ) : Rf (o.bind K) (C.seq a rest) z Φ := fun r e => by
  obtain ⟨t, e1, e2⟩ := bI e
  obtain ⟨f, z', e3, rfl, q⟩ := h1 t e1
  obtain ⟨f2, z2, e4, q2⟩ := k t z' q r e2
  exact ⟨f2, z2, by rw [seq_nx e3]; exact e4, q2⟩
/-- .. that may end all -/
theorem Rf.thnO {o : Option (β ⊕ ρ)} {K : β ⊕ ρ → Option α} (J : β → Z → Prop) (RT : ρ → Fl → Z → Prop) (h1 : Rf o a z fun v f z' => match v with | .inl v => f = .nx ∧ J v z' | .inr r => (∃ d, f = .rt d) ∧ RT r f z') (k : ∀ v z', J v z' → Rf (K (.inl v)) rest z' Φ)
    (q : ∀ r r' f z', K (.inr r) = some r' → (∃ d, f = .rt d) ∧ RT r f z' → Φ r' f z') : Rf (o.bind K) (C.seq a rest) z Φ := fun r e => by
  obtain ⟨t, e1, e2⟩ := bI e
  obtain ⟨f, z', e3, p⟩ := h1 t e1
  cases t with
  | inl v =>
    obtain ⟨rfl, p⟩ := p
    obtain ⟨f2, z2, e4, q2⟩ := k v z' p r e2
    exact ⟨f2, z2, by rw [seq_nx e3]; exact e4, q2⟩
  | inr u =>
    have q2 := q u r f z' e2 p
    obtain ⟨⟨d, rfl⟩, _⟩ := p
    exact ⟨_, _, cs_rt e3, q2⟩
theorem Rf.loopN {it : It} {g : G} {f : β → σ → Option σ} (hk : it.chk = none) (e : β → D) (J : σ → Z → Prop) (step : ∀ x v z, J v z → ∃ z1, g.run (e x) z = some z1 ∧ Rf (f x v) b z1 fun v f z' => (f = .nx ∨ f = .ct) ∧ J v z') : ∀ (xs : List β) (v : σ) (z : Z), J v z → Rf (Pl.forN f xs v) (C.loop it g b (xs.map e)) z fun v f z' => f = .nx ∧ J v z'
  | [], v, z, j => fun r q => by
    cases q
    exact ⟨_, _, loop_nil hk, rfl, j⟩
  | x :: xs, v, z, j => fun r q => by
    obtain ⟨t, q1, q2⟩ := bI (show (f x v).bind (fun s => Pl.forN f xs s) = some r from q)
    obtain ⟨z1, g1, w⟩ := step x v z j
    obtain ⟨fl, z2, w1, w2, j2⟩ := w t q1
    obtain ⟨f3, z3, w3, w4⟩ := Rf.loopN hk e J step xs t z2 j2 r q2
    refine ⟨f3, z3, ?_, w4⟩
    rw [List.map_cons]
    rcases w2 with rfl | rfl
    · exact loop_cons hk g1 w1 w3
    · exact loop_cons hk g1 w1 w3
theorem Rf.forN {mi : M It} {g : G} {f : β → σ → Option σ} {xs : List β} {v : σ} (e : β → D) (J : σ → Z → Prop) (hm : mi z = some (⟨xs.map e, none⟩, z1)) (h0 : J v z1) (step : ∀ x v z, J v z → ∃ z1, g.run (e x) z = some z1 ∧ Rf (f x v) b z1 fun v f z' => (f = .nx ∨ f = .ct) ∧ J v z') : Rf (Pl.forN f xs v) (C.for_ mi g b) z fun v f z' => f = .nx ∧ J v z' := fun r q => by
  obtain ⟨f3, z3, w3, w4⟩ := Rf.loopN (it := ⟨xs.map e, none⟩) rfl e J step xs v z1 h0 r q
  exact ⟨f3, z3, cs_for hm w3, w4⟩
theorem Rf.loopO {it : It} {g : G} {f : β → σ → Option (Pl.Out σ ρ)} (hk : it.chk = none) (e : β → D) (J : σ → Z → Prop) (RT : ρ → Fl → Z → Prop) (step : ∀ x v z, J v z → ∃ z1, g.run (e x) z = some z1 ∧ Rf (f x v) b z1 fun v f z' => match v with | .go v => (f = .nx ∨ f = .ct) ∧ J v z' | .brk v => f = .bk ∧ J v z' | .ret r => (∃ d, f = .rt d) ∧ RT r f z') :
    ∀ (xs : List β) (v : σ) (z : Z), J v z → Rf (Pl.forO f xs v) (C.loop it g b (xs.map e)) z fun v f z' => match v with | .inl v => f = .nx ∧ J v z' | .inr r => (∃ d, f = .rt d) ∧ RT r f z'
  | [], v, z, j => fun r q => by
    cases q
    exact ⟨_, _, loop_nil hk, rfl, j⟩
  | x :: xs, v, z, j => fun r q => by
    obtain ⟨z1, g1, w⟩ := step x v z j
    rw [Pl.forO] at q
    rw [List.map_cons]
    cases hf : f x v with
    | none => rw [hf] at q; cases q
    | some u =>
      rw [hf] at q
      obtain ⟨fl, z2, w1, w2⟩ := w u hf
      cases u with
      | go v2 =>
        obtain ⟨w2, j2⟩ := w2
        obtain ⟨f3, z3, w3, w4⟩ := Rf.loopO hk e J RT step xs v2 z2 j2 r q
        refine ⟨f3, z3, ?_, w4⟩
        rcases w2 with rfl | rfl
        · exact loop_cons hk g1 w1 w3
        · exact loop_cons hk g1 w1 w3
      | brk v2 =>
        obtain ⟨rfl, j2⟩ := w2
        cases q
        exact ⟨_, _, loop_cons hk g1 w1 rfl, rfl, j2⟩
      | ret r2 =>
        cases q
        have w3 := w2
        obtain ⟨⟨d, rfl⟩, _⟩ := w2
        exact ⟨_, _, loop_cons hk g1 w1 rfl, w3⟩
theorem Rf.forO {mi : M It} {g : G} {f : β → σ → Option (Pl.Out σ ρ)} {xs : List β} {v : σ} (e : β → D) (J : σ → Z → Prop) (RT : ρ → Fl → Z → Prop) (hm : mi z = some (⟨xs.map e, none⟩, z1)) (h0 : J v z1) (step : ∀ x v z, J v z → ∃ z1, g.run (e x) z = some z1 ∧ Rf (f x v) b z1 fun v f z' => match v with | .go v => (f = .nx ∨ f = .ct) ∧ J v z' | .brk v => f = .bk ∧ J v z' | .ret r => (∃ d, f = .rt d) ∧ RT r f z') :
    Rf (Pl.forO f xs v) (C.for_ mi g b) z fun v f z' => match v with | .inl v => f = .nx ∧ J v z' | .inr r => (∃ d, f = .rt d) ∧ RT r f z' := fun r q => by
  obtain ⟨f3, z3, w3, w4⟩ := Rf.loopO (it := ⟨xs.map e, none⟩) rfl e J RT step xs v z1 h0 r q
  exact ⟨f3, z3, cs_for hm w3, w4⟩
theorem Rf.whO {tt : M Bool} {t : σ → Option Bool} {f : σ → Option (Pl.Out σ ρ)} {v : σ} (J : σ → Z → Prop) (RT : ρ → Fl → Z → Prop) (test : ∀ v z, J v z → ∀ p, t v = some p → ∃ z1, tt z = some (p, z1) ∧ J v z1) (step : ∀ v z, J v z → Rf (f v) b z fun v f z' => match v with | .go v => (f = .nx ∨ f = .ct) ∧ J v z' | .brk v => f = .bk ∧ J v z' | .ret r => (∃ d, f = .rt d) ∧ RT r f z') (h0 : J v z) :
    Rf (Pl.whO t f v) (C.whl tt b) z fun v f z' => match v with | .inl v => f = .nx ∧ J v z' | .inr r => (∃ d, f = .rt d) ∧ RT r f z' := fun r q => by
  have key := Pl.whO.partial_correctness t f (fun v r => ∀ z, J v z → ∃ fl z', C.whl tt b z = some (fl, z') ∧ match r with | .inl v => fl = .nx ∧ J v z' | .inr r => (∃ d, fl = .rt d) ∧ RT r fl z') (fun W ih v r e z j => by
    cases ht : t v with
    | none => rw [ht] at e; cases e
    | some p =>
      rw [ht] at e
      obtain ⟨z1, w1, j1⟩ := test v z j p ht
      cases p with
      | false =>
        cases e
        exact ⟨_, _, whl_f w1, rfl, j1⟩
      | true =>
        dsimp only at e
        cases hf : f v with
        | none => rw [hf] at e; cases e
        | some u =>
          rw [hf] at e
          obtain ⟨fl, z2, w2, w3⟩ := step v z1 j1 u hf
          cases u with
          | go v2 =>
            obtain ⟨w3, j2⟩ := w3
            obtain ⟨f3, z3, w4, w5⟩ := ih v2 r e z2 j2
            refine ⟨f3, z3, ?_, w5⟩
            rw [C.whl, w1]
            dsimp only
            rw [w2]
            rcases w3 with rfl | rfl
            · exact w4
            · exact w4
          | brk v2 =>
            obtain ⟨rfl, j2⟩ := w3
            cases e
            exact ⟨_, _, whl_bk w1 w2, rfl, j2⟩
          | ret r2 =>
            cases e
            have w4 := w3
            obtain ⟨⟨d, rfl⟩, _⟩ := w3
            exact ⟨_, _, whl_rt w1 w2, w4⟩)
  exact key v r q z h0
theorem Rf.fn {n k : Nat} {ds : List D} {e : α → D} {hp : α → List D} {r : α} (hl : ds.length = k) (hs : slots n ds = s) (hb : Rf o c ⟨s, h⟩ fun r f z' => (f = .rt (e r) ∨ (f = .nx ∧ e r = .non)) ∧ z'.h = hp r) (hr : o = some r) : Mi.fn n k c ds h = some (e r, hp r) := by
  obtain ⟨f, z', e1, q, q2⟩ := hb r hr
  unfold Mi.fn
  rw [if_pos hl, hs, e1]
  rcases q with rfl | ⟨rfl, q⟩
  · rw [← q2]
  · rw [← q2, q]
end
section
variable {α β γ : Type} {x y d : D} {a b m : M D} {t u : M Bool} {z z1 z2 : Z} {s s' s2 : List Sl} {h h1 : List D} {i j k : Int} {p q : Bool}
theorem ev_mulP (h1 : a z = some (.int i, z1)) (h2 : b z1 = some (.int j, z2)) (e : Pl.mul i j = some k) : E.op O.mul a b z = some (.int k, z2) := by
  unfold Pl.mul at e
  split at e
  · rename_i c
    cases e
    exact ev_op h1 h2 (mul_v c.1 c.2)
  · cases e
theorem ev_divP (h1 : a z = some (.int i, z1)) (h2 : b z1 = some (.int j, z2)) (e : Pl.div i j = some k) : E.op O.div a b z = some (.int k, z2) := by
  unfold Pl.div at e
  split at e
  · rename_i c
    cases e
    exact ev_op h1 h2 (div_v c.1 c.2)
  · cases e
theorem ev_modP (h1 : a z = some (.int i, z1)) (h2 : b z1 = some (.int j, z2)) (e : Pl.mod i j = some k) : E.op O.mod a b z = some (.int k, z2) := by
  unfold Pl.mod at e
  split at e
  · rename_i c
    cases e
    exact ev_op h1 h2 (mod_v c)
  · cases e
theorem atI_map {xs : List α} {e : α → D} {r : α} (h : Pl.at_ xs i = some r) : atI (xs.map e) i = some (e r) := by
  unfold Pl.at_ atI at h
  unfold atI
  rw [List.length_map]
  cases hn : ixN xs.length i with
  | none => rw [hn] at h; cases h
  | some n =>
    rw [hn] at h
    have h : xs[n]? = some r := h
    show (xs.map e)[n]? = _
    rw [List.getElem?_map, h]
    rfl
theorem ev_ixP {tt : Bool} {xs : List α} {e : α → D} {r : α} (h1 : a z = some (x, z1)) (h2 : b z1 = some (.int i, z2)) (h3 : cont x z2 = some (tt, xs.map e)) (h4 : Pl.at_ xs i = some r) : E.op O.ix a b z = some (e r, z2) := ev_ix h1 h2 h3 (atI_map h4)
theorem ev_andO {o : Option Bool} {r : Bool} (h1 : a z = some (.bl p, z)) (h2 : ∀ q, o = some q → b z = some (.bl q, z)) (e : Pl.andO p o = some r) : E.and a b z = some (.bl r, z) := by
  unfold Pl.andO at e
  cases p with
  | true => rw [ev_and h1 fun _ => h2 r e]; rfl
  | false => cases e; rw [ev_and (q := true) h1 fun h => nomatch h]; rfl
theorem tt_andO {o : Option Bool} {r : Bool} (h1 : t z = some (p, z)) (h2 : ∀ q, o = some q → u z = some (q, z)) (e : Pl.andO p o = some r) : T.and t u z = some (r, z) := by
  unfold Pl.andO at e
  cases p with
  | true => rw [tt_and h1 fun _ => h2 r e]; rfl
  | false => cases e; rw [tt_and (q := true) h1 fun h => nomatch h]; rfl
theorem tt_orO {o : Option Bool} {r : Bool} (h1 : t z = some (p, z)) (h2 : ∀ q, o = some q → u z = some (q, z)) (e : Pl.orO p o = some r) : T.or t u z = some (r, z) := by
  unfold Pl.orO at e
  cases p with
  | true => cases e; rw [tt_or (q := true) h1 fun h => nomatch h]; rfl
  | false => rw [tt_or h1 fun _ => h2 r e]; rfl
theorem ev_iteE {e : α → D} {v w : α} (h1 : t z = some (p, z1)) (h2 : a z1 = some (e v, z2)) (h3 : b z1 = some (e w, z2)) : E.ite t a b z = some (e (if p = true then v else w), z2) := by
  cases p with
  | true => exact ev_iteT h1 h2
  | false => exact ev_iteF h1 h3
/-- what is not None is what it is -/
theorem ev_unO {e : α → D} {o : Option α} {r : α} (h1 : m z = some (eO e o, z1)) (hr : o = some r) : m z = some (e r, z1) := by subst hr; exact h1
theorem nonE {e : α → D} (he : ∀ x, isNon (e x) = false) (o : Option α) : isNon (eO e o) = o.isNone := by
  cases o with
  | none => rfl
  | some x => exact he x
theorem notNonE {e : α → D} (he : ∀ x, isNon (e x) = false) (o : Option α) : (!isNon (eO e o)) = o.isSome := by
  cases o with
  | none => rfl
  | some x => exact congrArg not (he x)
theorem pureO {e : α → D} (he : ∀ x, isPure (e x) = true) (o : Option α) : isPure (eO e o) = true := by
  cases o with
  | none => rfl
  | some x => exact he x
theorem ev_rngP {ma mb : M D} {r : List Int} (h1 : ma z = some (.int i, z1)) (h2 : mb z1 = some (.int j, z2)) (hr : Pl.rngO i j = some r) : I.rng2 ma mb z = some (⟨r.map eI, none⟩, z2) := by
  unfold Pl.rngO at hr
  split at hr
  · rename_i c
    cases hr
    rw [ev_rng2 h1 h2 c]
    unfold I.irng Pl.rng
    rw [List.map_map]
    rfl
  · cases hr
theorem ev_rngP1 {ma : M D} {r : List Int} (h1 : ma z = some (.int j, z1)) (hr : Pl.rngO 0 j = some r) : I.rng1 ma z = some (⟨r.map eI, none⟩, z1) := by
  unfold Pl.rngO at hr
  split at hr
  · rename_i c
    cases hr
    rw [ev_rng1 h1 c.2]
    unfold I.irng Pl.rng
    rw [List.map_map, Int.sub_zero]
    rfl
  · cases hr
theorem ev_itsP {xs : List α} {e : α → D} (h1 : a z = some (x, z1)) (h2 : itemsOf x = some (xs.map e)) : I.seq a z = some (⟨xs.map e, none⟩, z1) := ev_seq h1 h2
theorem ev_itsC {xs : List α} {e : α → D} (h1 : a z = some (x, z1)) (h2 : itemsOf x = some (xs.map e)) : I.seqC a z = some (⟨xs.map e, none⟩, z1) := ev_seqC h1 h2
theorem F_lenM {xs : List α} {e : α → D} {tt : Bool} (h : cont x z = some (tt, xs.map e)) : F.len [x] z = some (.int xs.length) := by
  rw [lf_len h, List.length_map]
end
section
variable {α β σ : Type} {z z1 : Z} {s s' s2 : List Sl} {h : List D}
theorem cmp_loop {it : It} {g : G} {vs : List Nat} {tt : M Bool} {te : M D} {t : α → Option Bool} {f : α → Option β} (e : α → D) (e' : β → D) (ok : it.ok ⟨s', h⟩ = true)
    (step : ∀ x, ∃ za sa, g.run (e x) ⟨s', h⟩ = some za ∧ (∀ b, t x = some b → tt za = some (b, ⟨sa, h⟩)) ∧ N.wipe sa vs = s' ∧ (∀ y, f x = some y → ∃ sb, te ⟨sa, h⟩ = some (e' y, ⟨sb, h⟩) ∧ isPure (e' y) = true ∧ N.wipe sb vs = s')) :
    ∀ (xs : List α) (acc : List D) (ys : List β), Pl.cmp t f xs = some ys → N.loop it g vs tt te (xs.map e) acc ⟨s', h⟩ = some (acc ++ ys.map e', ⟨s', h⟩)
  | [], acc, ys, q => by
    cases q
    rw [List.map_nil, N.loop, if_pos ok, List.map_nil, List.append_nil]
  | x :: xs, acc, ys, q => by
    obtain ⟨za, sa, g1, t1, w1, f1⟩ := step x
    obtain ⟨b, q1, q2⟩ := bI (show (t x).bind _ = some ys from q)
    rw [List.map_cons, N.loop, if_pos ok, g1]
    dsimp only
    rw [t1 b q1]
    cases b with
    | false =>
      dsimp only
      rw [w1]
      exact cmp_loop e e' ok step xs acc ys q2
    | true =>
      obtain ⟨y, q3, q4⟩ := bI (show (f x).bind _ = some ys from q2)
      obtain ⟨ys2, q5, q6⟩ := bI q4
      cases q6
      obtain ⟨sb, f2, f3, f4⟩ := f1 y q3
      dsimp only
      rw [f2]
      dsimp only
      rw [if_pos f3, f4, cmp_loop e e' ok step xs _ ys2 q5, List.append_assoc]
      rfl
theorem ev_cmp {mi : M It} {chk : Option D} {g : G} {vs : List Nat} {tt : M Bool} {te : M D} {t : α → Option Bool} {f : α → Option β} {xs : List α} {ys : List β} (e : α → D) (e' : β → D) (hm : mi z = some (⟨xs.map e, chk⟩, ⟨s, h⟩)) (ho : (vs.all fun v => !N.isOwn s[v]?) = true) (hw : N.wipe s vs = s') (ok : (⟨xs.map e, chk⟩ : It).ok ⟨s', h⟩ = true) (hr : N.rest s s' vs = s2)
    (step : ∀ x, ∃ za sa, g.run (e x) ⟨s', h⟩ = some za ∧ (∀ b, t x = some b → tt za = some (b, ⟨sa, h⟩)) ∧ N.wipe sa vs = s' ∧ (∀ y, f x = some y → ∃ sb, te ⟨sa, h⟩ = some (e' y, ⟨sb, h⟩) ∧ isPure (e' y) = true ∧ N.wipe sb vs = s'))
    (q : Pl.comp t f xs = some ys) : N.comp mi g vs tt te z = some (ys.map e', ⟨s2, h⟩) := by
  unfold Pl.comp at q
  split at q
  · rename_i hl
    have k := cmp_loop e e' ok step xs [] ys q
    rw [List.nil_append] at k
    exact ev_compN hm (by rw [List.length_map]; exact hl) ho hw k hr
  · cases q
end
end Mi
set_option Elab.async false
set_option linter.all false
set_option maxRecDepth 100000
namespace Mi
open PySem PySem.Spec PyProof.Rows L2 PySem.W
def intAt (xs : List D) (i : Nat) : Option Int := match xs[i]? with
  | some (D.int n) => some n
  | _ => none
section
variable {prog : Program} {w : World} {A : Around} {E : Value → Shared → Prop} {s : Shared} {env : Env} {m : Str → Option Value} {x : Str} {t : Addr} {its : Array Value}
/-- which numbers stand at the places -/
def IntsAt (its : Array Value) : List Nat → List Int → List Value → Prop
  | [], [], [] => True
  | i :: iz, n :: ns, v :: vs => (∃ tk, v = .int n tk ∧ its[i]? = some v) ∧ IntsAt its iz ns vs
  | _, _, _ => False
theorem IntsAt.ints {its : Array Value} : ∀ {iz : List Nat} {ns : List Int} {vs : List Value} {h : Heap}, IntsAt its iz ns vs → ReadsAll h vs (ns.map PyData.int) []
  | [], [], [], _, _ => .nil
  | i :: iz, n :: ns, v :: vs, h, ⟨⟨tk, e, _⟩, r⟩ => by
    subst e
    exact ReadsAll.cons (as := []) (bs := []) (.int n tk) (IntsAt.ints r)
end
def Made (P : Addr) (q : Str) (H H1 : Hp) : Prop := H1 = H ∨ ∃ (ps more : Array Value) (cn : Addr), H P = some (.tbl ps) ∧ H cn = none ∧ H1 = upd (upd H P (.tbl (ps ++ more))) cn (LamX.CodeO cn q) ∧ TriplesOk (ps ++ more).toList ∧
  ∀ (pos : Pos) (cv : Value), codeAmong pos (ps ++ more).toList = some cv → codeAmong pos ps.toList = some cv ∨ cv = .ref cn
theorem Made.keep {P : Addr} {q : Str} {H H1 : Hp} (m : Made P q H H1) {b : Addr} {o : HO} (e : H b = some o) (n : b ≠ P) : H1 b = some o := by
  rcases m with rfl | ⟨ps, more, cn, hP, hc, rfl, _, _⟩
  · exact e
  · rw [upd_ne (ne_of_none e hc), upd_ne n]
    exact e
def IntsV (ys : List V) : List Nat → List Int → Prop
  | [], [] => True
  | i :: iz, n :: ns => ys[i]? = some (.int n) ∧ IntsV ys iz ns
  | _, _ => False
theorem IntsV.of {K : Kx} {F : Hp} {rho : List Addr} {xs : List D} {ys : List V} (r : Rps K F rho xs ys) : ∀ {iz : List Nat} {ns : List Int}, iz.mapM (intAt xs) = some ns → IntsV ys iz ns
  | [], ns, h => by
    rw [List.mapM_nil] at h
    cases h
    trivial
  | i :: iz, ns, h => by
    rw [List.mapM_cons] at h
    obtain ⟨n, h1, h2⟩ := bI h
    obtain ⟨ms, h3, h4⟩ := bI h2
    cases h4
    refine ⟨?_, IntsV.of r h3⟩
    unfold intAt at h1
    split at h1
    · rename_i k hx
      cases h1
      obtain ⟨v, e1, e2⟩ := r.get hx
      cases e2
      exact e1
    · cases h1
theorem fnD_ok {P : Program} {w : World} {K : Kx} {mg : Str → Option Value} {base : Heap} {x qual : Str} {params : Arguments} {body : List Stmt} {scope : Scope} {dvs : List V} {kws : List (Str × V)} {f : Addr} {fd : FuncData} {N ps : List Str} {k n kk : Nat} {b : C} (F : FunD K x qual params body scope dvs kws f fd) (S : FnScope N ps scope) (hn : N.length = n) (hk : ps.length = kk)
    (hb : ∀ (A : Around) (outer : List Env) (s : Shared) (H : Hp) (E : XK), Room k (A.deeper (envOfC qual scope s.heap.objs.size f fd.code)) → PSs (cxOf CX0 P w K mg base N qual scope f fd.code A outer s H E).nox body (Ts K b)) :
    FnOk P w K mg base CX0 (k + 1) f fd ps (spM kk K (fn n kk b)) := by
  subst hn hk
  obtain ⟨oc, od, dV, kV, doc, pm, an, cdv, ct, osl, rfl, lk, hcd, _, _⟩ := F.ex
  exact fn_of lk hcd S (fun vs H Q E h => h.1) fun A outer s H vs Q E hr h => ⟨_, (hb A outer s H E hr).nox, fn_body S h⟩
end Mi
set_option Elab.async false
set_option linter.all false
set_option maxRecDepth 100000
namespace Mi
open PySem PySem.W PySem.Spec PyProof.Rows L2
/-- all names of shared objects in d are below m -/
def blw : Nat → Nat → D → Bool
  | _, _, .non => true
  | _, _, .bl _ => true
  | _, _, .int _ => true
  | _, _, .str _ => true
  | 0, _, _ => false
  | n + 1, m, .tup xs => xs.all (blw n m)
  | n + 1, m, .kt xs => xs.all (blw n m)
  | n + 1, m, .lst xs => xs.all (blw n m)
  | n + 1, m, .scr xs => xs.all (blw n m)
  | n + 1, m, .dk kvs => kvs.all fun kv => blw n m kv.2
  | n + 1, m, .dt kvs => kvs.all fun kv => blw n m kv.2
  | n + 1, m, .ins _ fs => fs.all fun kv => blw n m kv.2
  | _ + 1, m, .ref k => decide (k < m)
  | _ + 1, _, .own _ => false
section
variable {K : Kx} {F F' F2 F0 : Hp} {rho t : List Addr}
theorem Rps.conv {rho2 : List Addr} {f : D → D} : ∀ {ds : List D} {vs : List V}, (∀ d ∈ ds, ∀ v, Rp K F rho d v → Rp K F2 rho2 (f d) v) → Rps K F rho ds vs → Rps K F2 rho2 (ds.map f) vs
  | _, _, _, .nil => .nil
  | _, _, h, .cons r rs => .cons (h _ List.mem_cons_self _ r) (Rps.conv (fun d hd => h d (List.mem_cons_of_mem _ hd)) rs)
theorem Rps.conv1 {rho2 : List Addr} {ds : List D} {vs : List V} (h : ∀ d ∈ ds, ∀ v, Rp K F rho d v → Rp K F2 rho2 d v) (r : Rps K F rho ds vs) : Rps K F2 rho2 ds vs := by
  have := Rps.conv (f := id) h r
  rwa [List.map_id] at this
theorem pre_short {n : Nat} {a : Addr} (h : n < rho.length) (e : (rho ++ t)[n]? = some a) : rho[n]? = some a := by
  rw [← e, List.getElem?_append_left h]
theorem Rp.blw {m : Nat} (hm : rho.length = m) : ∀ (n : Nat) {d : D} {v : V}, Mi.blw n m d = true → Rp K F (rho ++ t) d v → Rp K F rho d v := by
  intro n
  induction n with
  | zero =>
    intro d v h r
    cases r <;> first | exact .non | exact .bl _ | exact .int _ | exact .str _ | (simp [Mi.blw] at h)
  | succ n ih =>
    intro d v h r
    have ls : ∀ {ds : List D} {vs : List V}, ds.all (Mi.blw n m) = true → Rps K F (rho ++ t) ds vs → Rps K F rho ds vs := fun {ds vs} hd rs => Rps.conv1 (fun d hd2 v r => ih (List.all_eq_true.mp hd d hd2) r) rs
    have al : ∀ {κ : Type} {kvs : List (κ × D)}, (kvs.all fun kv => Mi.blw n m kv.2) = true → (kvs.map Prod.snd).all (Mi.blw n m) = true := fun {κ kvs} h => by
      rw [List.all_map]
      exact h
    cases r with
    | non => exact .non
    | bl b => exact .bl b
    | int i => exact .int i
    | str x => exact .str x
    | tup e r => exact .tup e (ls (by simpa only [Mi.blw] using h) r)
    | kt e r => exact .kt e (ls (by simpa only [Mi.blw] using h) r)
    | lst e r => exact .lst e (ls (by simpa only [Mi.blw] using h) r)
    | scr e r => exact .scr e (ls (by simpa only [Mi.blw] using h) r)
    | ref e =>
      simp only [Mi.blw, decide_eq_true_eq] at h
      exact .ref (pre_short (by omega) e)
    | dk e k r => exact .dk e k (ls (al (by simpa only [Mi.blw] using h)) r)
    | dt e k r => exact .dt e k (ls (al (by simpa only [Mi.blw] using h)) r)
    | ins c e k r => exact .ins c e k (ls (al (by simpa only [Mi.blw] using h)) r)
end
mutual
def calm : D → Bool
  | .tup xs => calms xs
  | .kt xs => calms xs
  | .lst xs => calms xs
  | .non => true
  | .bl _ => true
  | .int _ => true
  | .str _ => true
  | _ => false
def calms : List D → Bool
  | [] => true
  | x :: xs => calm x && calms xs
end
section
variable {K : Kx} {F F' F0 : Hp} {rho t : List Addr}
mutual
theorem Rp.calm : ∀ {d : D} {v : V}, Mi.calm d = true → Rp K F (rho ++ t) d v → Rp K F rho d v
  | _, _, _, .non => .non
  | _, _, _, .bl b => .bl b
  | _, _, _, .int i => .int i
  | _, _, _, .str x => .str x
  | _, _, h, .tup e r => .tup e (Rps.calm (by rw [Mi.calm] at h; exact h) r)
  | _, _, h, .kt e r => .kt e (Rps.calm (by rw [Mi.calm] at h; exact h) r)
  | _, _, h, .lst e r => .lst e (Rps.calm (by rw [Mi.calm] at h; exact h) r)
  | _, _, h, .scr e r => by rw [Mi.calm] at h <;> first | cases h | (intros; contradiction)
  | _, _, h, .ref e => by rw [Mi.calm] at h <;> first | cases h | (intros; contradiction)
  | _, _, h, .dk e k r => by rw [Mi.calm] at h <;> first | cases h | (intros; contradiction)
  | _, _, h, .dt e k r => by rw [Mi.calm] at h <;> first | cases h | (intros; contradiction)
  | _, _, h, .ins m e k r => by rw [Mi.calm] at h <;> first | cases h | (intros; contradiction)
theorem Rps.calm : ∀ {ds : List D} {vs : List V}, Mi.calms ds = true → Rps K F (rho ++ t) ds vs → Rps K F rho ds vs
  | _, _, _, .nil => .nil
  | _, _, h, .cons r rs => by
    rw [Mi.calms, Bool.and_eq_true] at h
    exact .cons (Rp.calm h.1 r) (Rps.calm h.2 rs)
end
mutual
theorem Rp.short : ∀ {d : D} {v0 v : V}, Rp K F0 rho d v0 → Rp K F (rho ++ t) d v → Rp K F rho d v
  | _, _, _, .non, .non => .non
  | _, _, _, .bl _, .bl b => .bl b
  | _, _, _, .int _, .int i => .int i
  | _, _, _, .str _, .str x => .str x
  | _, _, _, .tup _ r0, .tup e r => .tup e (Rps.short r0 r)
  | _, _, _, .kt _ r0, .kt e r => .kt e (Rps.short r0 r)
  | _, _, _, .lst _ r0, .lst e r => .lst e (Rps.short r0 r)
  | _, _, _, .scr _ r0, .scr e r => .scr e (Rps.short r0 r)
  | _, _, _, .ref e0, .ref e => .ref (by rw [← e, List.getElem?_append_left (List.getElem?_eq_some_iff.mp e0).1])
  | _, _, _, .dk _ _ r0, .dk e k r => .dk e k (Rps.short r0 r)
  | _, _, _, .dt _ _ r0, .dt e k r => .dt e k (Rps.short r0 r)
  | _, _, _, .ins _ _ _ r0, .ins m e k r => .ins m e k (Rps.short r0 r)
theorem Rps.short : ∀ {ds : List D} {vs0 vs : List V}, Rps K F0 rho ds vs0 → Rps K F (rho ++ t) ds vs → Rps K F rho ds vs
  | _, _, _, .nil, .nil => .nil
  | _, _, _, .cons r0 rs0, .cons r rs => .cons (Rp.short r0 r) (Rps.short rs0 rs)
end
theorem Ob.short {H0 H : Hp} {a0 a : Addr} {d : D} (h0 : Ob K F0 rho H0 a0 d) (h : Ob K F (rho ++ t) H a d) : Ob K F rho H a d := by
  cases d <;> try exact h.elim
  · obtain ⟨qs, e, r, k, l⟩ := h
    obtain ⟨_, _, r0, _⟩ := h0
    exact ⟨qs, e, r0.short r, k, l⟩
  · obtain ⟨xs, e, r⟩ := h
    obtain ⟨_, _, r0⟩ := h0
    exact ⟨xs, e, r0.short r⟩
  · obtain ⟨xs, e, k, r⟩ := h
    obtain ⟨_, _, _, r0⟩ := h0
    exact ⟨xs, e, k, r0.short r⟩
  · obtain ⟨xs, e, k, r⟩ := h
    obtain ⟨_, _, _, r0⟩ := h0
    exact ⟨xs, e, k, r0.short r⟩
  · obtain ⟨C, dx, es, m, e, k, r⟩ := h
    obtain ⟨_, _, _, _, _, _, r0⟩ := h0
    exact ⟨C, dx, es, m, e, k, r0.short r⟩
end
open Classical in
noncomputable def mkV (h : List D) : Option (D × List D) → Option D
  | some (.non, h') => match h'[h.length]? with
    | some (.ins nm fs) => if h' = h ++ [.ins nm fs] ∧ (fs.map Prod.snd).all (blw 12 h.length) = true then some (.ins nm fs) else none
    | _ => none
  | _ => none
noncomputable def E.mk (nm : Str) (mf : Fn) (g : List D → List D) (ms : List (M D)) : M D := bnd (E.args ms) fun xs z => match mkV z.h (mf (.ref z.h.length :: g xs) (z.h ++ [.ins nm []])) with
  | some d => some (d, z)
  | none => none
def insOf (x : D) (z : Z) : Option (Str × List (Str × D)) := match x with
  | .ref n => match z.h[n]? with
    | some (.ins nm fs) => some (nm, fs)
    | _ => none
  | .ins nm fs => some (nm, fs)
  | _ => none
def E.meth (nm m : Str) (mf : Fn) (o : M D) (as : List (M D)) : M D := bnd o fun x z => match insOf x z with
  | some (nm2, fs) => if nm2 = nm ∧ (fs.lookup m).isNone = true then bnd (E.args as) (fun xs z => match mf (x :: xs) z.h with
      | none => none
      | some (d, h') => some (d, ⟨z.s, h'⟩)) z else none
  | none => none
theorem lookup_none {K : Kx} {F : Hp} {rho : List Addr} {f : Str} : ∀ {fs : List (Str × D)} {es : List (Str × V)}, es.map Prod.fst = fs.map Prod.fst → fs.lookup f = none → es.lookup f = none
  | [], es, hk, _ => by
    cases es with
    | nil => rfl
    | cons _ _ => cases hk
  | (k, x) :: fs, es, hk, h => by
    cases es with
    | nil => cases hk
    | cons e es =>
      obtain ⟨k2, v⟩ := e
      rw [List.map_cons, List.map_cons, List.cons.injEq] at hk
      obtain ⟨hk1, hk2⟩ := hk
      have hk1 : k2 = k := hk1
      subst hk1
      rw [List.lookup_cons] at h ⊢
      cases c : (f == k2) with
      | true => rw [c] at h; cases h
      | false => rw [c] at h; exact lookup_none (K := K) (F := F) (rho := rho) hk2 h
theorem insOf_ok {K : Kx} {B : Bs} {F : Hp} {rho : List Addr} {om : Nat → Option Addr} {z : Z} {σ : L2.St} {H : Hp} {x : D} {v : V} {nm : Str} {fs : List (Str × D)} {m : Str} (R : Rl K B F rho om z σ H) (r : Rv K F rho om x v) (e : insOf x z = some (nm, fs)) (hm : (fs.lookup m).isNone = true) :
    Rp K F rho x v ∧ ∃ a C dx es, v = .ref a ∧ (nm, C) ∈ K.tb.c ∧ H a = some (.ins C dx es) ∧ es.lookup m = none := by
  have hm2 : fs.lookup m = none := Option.isNone_iff_eq_none.mp hm
  unfold insOf at e
  split at e
  · rename_i n
    split at e
    · rename_i nm2 fs2 hz
      cases e
      cases r with
      | pure r =>
        have r0 := r
        cases r with
        | ref hr =>
          obtain ⟨C, dx, es, h1, h2, h3, h4⟩ := R.rh.obs _ _ _ hz hr
          exact ⟨r0, _, C, dx, es, rfl, h1, h2, lookup_none (K := K) (F := F) (rho := rho) h3 hm2⟩
    · cases e
  · rename_i nm2 fs2
    cases e
    cases r with
    | pure r =>
      have r0 := r
      cases r with
      | ins h1 h2 h3 h4 => exact ⟨r0, _, _, _, _, rfl, h1, R.rh.fro _ _ h2, lookup_none (K := K) (F := F) (rho := rho) h3 hm2⟩
  · cases e
theorem meth_go {K : Kx} {nm m : Str} {C : Addr} {n : Nat} {mf : Fn} {mo : M D} {ms : List (M D)} {Ee : XK} (hC : ∀ q ∈ K.tb.c, q.1 = nm → q.2 = C) (hn : ms.length = n) : ∀ σ H Q, Te K (E.meth nm m mf mo ms) σ H Q → tMeth C m (spM (n + 1) K mf) [] Ee (Te K mo) (Ta K (E.args ms)) σ H Q := by
  rintro σ H Q ⟨B, F, rho, om, z, g⟩
  refine (g.bnd.imp fun _ _ H1 _ _ v _ _ _ _ _ ⟨F2, rho2, z2, x, eg1, s1, p1, r1, g1⟩ => ?_).tx (R := rV K)
  obtain ⟨R, d, z4, e, k⟩ := g1
  dsimp only at e
  split at e
  · rename_i nm2 fs hi
    split at e
    · rename_i c
      obtain ⟨c1, c2⟩ := c
      subst c1
      obtain ⟨rx, a, C2, dx, es, rfl, h1, h2, h3⟩ := insOf_ok R r1 hi c2
      have h4 : C2 = C := hC _ h1 rfl
      subst h4
      refine ⟨a, dx, es, rfl, h2, h3, ?_⟩
      have g2 : Go K (rV K) B F2 rho2 om (bnd (E.args ms) (fun xs z => match mf (x :: xs) z.h with
        | none => none
        | some (d, h') => some (d, ⟨z.s, h'⟩))) z2 σ H1 Q := ⟨R, d, z4, e, k⟩
      refine (g2.bnd.imp fun _ _ H3 _ _ vs _ _ _ _ _ ⟨F4, rho4, z5, xs, eg2, s2, p2, r2, g3⟩ => ?_).tx (R := rA K)
      obtain ⟨R3, d3, z6, e3, k3⟩ := g3
      dsimp only at e3
      split at e3
      · cases e3
      · rename_i d' h' hd
        cases e3
        rw [List.append_nil]
        have hx := args_len eg2
        refine ⟨by rw [List.length_cons, ← r2.length, hx, hn], F4, rho4, z5.h, x :: xs, R3.rh, .cons (rx.mono s2 p2) r2, _, _, hd, fun F' rho' H' v e1 e2 r fr nf nr q => ?_⟩
        exact k3 F' rho' H' v e1 e2 (R3.called e1 e2 r fr nf nr) (.pure q)
    · cases e
  · cases e
theorem me_meth {X : Cx} {Tb : Tbs} {k n : Nat} {f C : Addr} {fd : FuncData} {ps : List Str} {nm m : Str} {apos pos : Pos} {o e : Expr} {es : List Expr} {mf : Fn} {mo : M D} {ms : List (M D)} {pl : Sem Bool} (hC : ∀ q ∈ Tb.c, q.1 = nm → q.2 = C) (c : Cls X.K C) (hm : Meth X.K C m f)
    (G : FnOk X.prog X.w X.K X.mg X.base CX0 k f fd ps (spM (n + 1) (kx X Tb) mf)) (hr : Room k X.A) (hb : Binds X.K fd ps []) (ho : PE X o (Te (kx X Tb) mo)) (ha : PA X (e :: es) (Ta (kx X Tb) (E.args ms))) (hn : ms.length = n := by rfl)
    (hst : starEach (e :: es) X.env = (false, eval e X.env) :: starEach es X.env := by rfl) (hpl : (backTo pos (starEach es X.env)).any (·.1) = false := by rfl)
    (ht : eval (.Call (.Attribute o m apos) (e :: es) [] pos) X.env = (do
      let ov ← eval o X.env
      standAt apos.atName
      let (f, first) ← holding [ov] (getMethod ov m pl)
      callWith pos f first (backTo pos (starEach (e :: es) X.env)) (backToKw pos (keywordEach [] X.env))) := by rfl) :
    PE X (.Call (.Attribute o m apos) (e :: es) [] pos) (Te (kx X Tb) (E.meth nm m mf mo ms)) :=
  pe_imp (pe_meth (E := E0) ho c hm G hr hb .nil pass0 ha hst hpl ht) (meth_go hC hn)
/-- o.f of an instance of the class nm -/
def O.fldC (nm f : Str) (x : D) (z : Z) : Option D := match insOf x z with
  | some (nm2, fs) => if nm2 = nm then fs.lookup f else none
  | none => none
@[reducible] def E.fldC (nm f : Str) (m : M D) : M D := E.un (O.fldC nm f) m
def C.fsetC (nm f : Str) (o v : M D) : C := bnd v fun d => bnd o fun x z => if isPure d = true then match x with
    | .ref n => match z.h[n]? with
      | some (.ins nm2 fs) => if nm2 = nm ∧ fs.length < 1000 then some (.nx, ⟨z.s, z.h.set n (.ins nm2 (putFD f d fs))⟩) else none
      | _ => none
    | _ => none
  else none
theorem me_fldC {X : Cx} {Tb : Tbs} {nm f : Str} {C : Addr} {e : Expr} {m : M D} {pos : Pos} (hC : ∀ q ∈ Tb.c, q.1 = nm → q.2 = C) (hc : Cls X.K C) (hn : NoAttr X.K C f) (he : PE X e (Te (kx X Tb) m)) (hb : attributeBase e f X.env (eval e X.env) = eval e X.env := by rfl) : PE X (.Attribute e f pos) (Te (kx X Tb) (E.fldC nm f m)) := by
  refine pe_imp (pe_fld he hb) (un_go (r := fun x H Q => ∃ a C dx fs v, x = V.ref a ∧ H a = some (.ins C dx fs) ∧ Cls X.K C ∧ NoAttr X.K C f ∧ fs.lookup f = some v ∧ Q v H) ?_)
  intro B F rho om z σ H x xv d R rx e Q k
  unfold O.fldC at e
  split at e
  · rename_i nm2 fs hi
    split at e
    · rename_i c
      subst c
      unfold insOf at hi
      split at hi
      · rename_i n
        split at hi
        · rename_i nm3 fs3 hz
          cases hi
          cases rx with
          | pure rx =>
            cases rx with
            | ref hr =>
              obtain ⟨C2, dx, es, hm, hH, hk, hv⟩ := R.rh.obs _ _ _ hz hr
              obtain ⟨v, h1, h2⟩ := rps_lookup hk hv e
              have h4 : C2 = C := hC _ hm rfl
              subst h4
              exact ⟨_, C2, dx, es, v, rfl, hH, hc, hn, h1, k F H v (Same.refl F) R (.pure h2)⟩
        · cases hi
      · rename_i nm3 fs3
        cases hi
        cases rx with
        | pure rx =>
          cases rx with
          | ins hm hF hk hv =>
            obtain ⟨v, h1, h2⟩ := rps_lookup hk hv e
            have h4 := hC _ hm rfl
            subst h4
            exact ⟨_, _, _, _, v, rfl, R.rh.fro _ _ hF, hc, hn, h1, k F H v (Same.refl F) R (.pure h2)⟩
      · cases hi
    · cases e
  · cases e
theorem ms_fsetC {X : Cx} {Tb : Tbs} {nm f : Str} {Ca : Addr} {o e : Expr} {mo mv : M D} {pos pos' : Pos} (hC : ∀ q ∈ Tb.c, q.1 = nm → q.2 = Ca) (hc : Cls X.K Ca) (hn : NoAttr X.K Ca f) (ho : PE X o (Te (kx X Tb) mo)) (hv : PE X e (Te (kx X Tb) mv)) (hs : swapsWith e (some (.Attribute o f pos')) pos.line X.env = pure false := by rfl) : PS X (.Assign [.Attribute o f pos'] e pos) (Ts (kx X Tb) (C.fsetC nm f mo mv)) := by
  refine ps_imp (ps_fld ho hv hs) fun D σ H ⟨B, F, rho, om, z, R, fl, z', e, k⟩ => ?_
  obtain ⟨d, z1, e1, e2⟩ := bnd_some e
  refine ⟨B, F, rho, om, z, R, d, z1, e1, fun F1 rho1 H1 v s1 p1 R1 r1 => ?_⟩
  obtain ⟨x, z2, e3, e4⟩ := bnd_some e2
  refine ⟨B, F1, rho1, om, z1, R1, x, z2, e3, fun F2 rho2 H2 w s2 p2 R2 r2 => ?_⟩
  split at e4
  · rename_i hp
    split at e4
    · rename_i n
      split at e4
      · rename_i nm2 fs hz
        split at e4
        · rename_i hl
          obtain ⟨hnm, hl⟩ := hl
          subst hnm
          cases e4
          cases r2 with
          | pure r2 =>
            cases r2 with
            | ref hr =>
              obtain ⟨C2, dx, es, hm, hH, hk, hvs⟩ := R2.rh.obs _ _ _ hz hr
              have h4 : C2 = Ca := hC _ hm rfl
              subst h4
              have rp := (r1.of_pure hp).mono s2 p2
              have q := rps_putF (f := f) rp hk hvs
              have hle : es.length < 1000 := by
                have := congrArg List.length hk
                rw [List.length_map, List.length_map] at this
                omega
              have R3 := R2.mutRef hr (o := .ins C2 dx (putF f v es)) (d := .ins nm2 (putFD f d fs)) ⟨C2, dx, _, hm, upd_same, q.1, q.2⟩
              exact ⟨_, C2, dx, es, rfl, hH, hc, hn, hle, k F2 rho2 _ _ _ (s1.trans s2) (p1.trans p2) R3⟩
        · cases e4
      · cases e4
    · cases e4
  · cases e4
theorem Tx.mono {K : Kx} {α β : Type} {R : RelT α β} {m : M α} {σ : L2.St} {H : Hp} {Q Q' : β → Hp → Prop} (h : Tx K R m σ H Q) (i : ∀ y H, Q y H → Q' y H) : Tx K R m σ H Q' := by
  obtain ⟨B, F, rho, om, z, g⟩ := h
  exact ⟨B, F, rho, om, z, g.imp fun _ _ H x _ y _ _ _ _ _ q => i y H q⟩
theorem walkX {l : PySem.W.OpenLaw} {k : Nat} {q : Program} {loose : List Str} {XP : (Str → Option Value) → Heap → Prop} {YP : World → Heap → Prop} {d : DefRec} {x : Str} {mf : Fn} (most : l.most = some 63) (nodef : d.params.defaults = []) (room : Room k callerA)
    (F : ∀ (w : World) (mg : Str → Option Value) (fa : Addr) (hp : Heap), YP w hp → hp.Ns mainGlobals mg → mg d.name = some (.ref fa) →
      ∃ (K : PySem.W.Frag) (fd : FuncData) (cs : List Cs) (cl : List (Str × Addr)), K.In hp ∧ CsOk K hp cs ∧ (∀ (sh : Shared) (u : Value), BindsTo sh fd ⟨[u], []⟩ [(x, u)]) ∧ ∀ base : Heap, K.In base → base.Ns mainGlobals mg → (∀ z ∈ cs, LamX.TabB base mg z.c z.p) → GOk l.prog w K mg base k fa fd [x] (spM 1 ⟨K, ⟨tbs cs, cl⟩⟩ mf))
    (law : ∀ ns : List Int, ns.length ≤ 63 → ∃ h', mf [.scr (ns.map D.int)] [] = some (.bl true, h')) : PySem.W.WalkO q loose XP YP l.row.toRowW d [] (fun f vs => PySem.call f vs) := by
  apply Att.attach_call most nodef
  intro w s0 s1 mg mb fa o pm cd doc a us ns G Y ho hd hcd hmg scr iar short gens
  obtain ⟨K, fd, cs, cl, kin, ck, hb, hF⟩ := F w mg fa _ Y G.T.g hmg
  refine row_call kin G.T.g G.T.b G.T.builtins G.T.nolimit gens ck G.T.bmain scr iar (Nat.le_trans short (by decide)) room hF hb fun Hh hT sq => ?_
  obtain ⟨h2, e⟩ := law ns short
  have rh : Rh ⟨K, ⟨tbs cs, cl⟩⟩ (fun b => if ∃ z ∈ cs, z.p = b then none else Hh b) [] [] Hh := by
    classical
    refine ⟨fun b o e => ?_, rfl, (fun _ _ _ h => by simp at h), (fun _ _ _ h => by simp at h), (fun _ _ h => by simp at h), ⟨fun p hp => ?_, fun p hp y hy c => ?_, fun p hp => ?_⟩, fun _ _ _ h => by simp at h⟩
    · split at e
      · cases e
      · exact e
    · obtain ⟨z, hz, rfl⟩ := List.mem_map.mp hp
      refine ⟨#[], hT z hz, True.intro, fun pos cv hc => ?_⟩
      have hc : codeAmong pos [] = some cv := hc
      simp [codeAmong] at hc
    · obtain ⟨z, hz, rfl⟩ := List.mem_map.mp hp
      obtain ⟨z2, hz2, rfl⟩ := List.mem_map.mp hy
      exact ck.one z hz z2 hz2 c
    · obtain ⟨z, hz, rfl⟩ := List.mem_map.mp hp
      exact if_pos ⟨z, hz, rfl⟩
  have sq2 : SqL K (fun b => if ∃ z ∈ cs, z.p = b then none else Hh b) a (ns.map V.int) := by
    have na : ¬ ∃ z ∈ cs, z.p = a := by
      rintro ⟨z, hz, rfl⟩
      have := ck.tab z hz
      rw [scr] at this
      cases this
    rcases sq with (sq | ⟨o, sq⟩) | sq
    · exact .inl (.inl ((if_neg na).trans sq))
    · exact .inl (.inr ⟨o, (if_neg na).trans sq⟩)
    · exact .inr sq
  exact ⟨rfl, _, [], [], [.scr (ns.map D.int)], rh, .one (.scr sq2 (.ints ns)), _, h2, e, fun _ _ _ v _ _ _ _ _ _ r => by cases r; rfl⟩
/-- the tables of the defs that hold a lambda -/
theorem csD_ok {fa : List He.Fa} {fn : List He.DefD} {ts : List He.Tab} {tf : List (He.Defn × Str)} {ex : PySem.W.Frag → Bool} {w : World} {hp : Heap} {K : PySem.W.Frag} (kin : K.In hp) (c : He.SaysX fa fn ts (tf.map Prod.fst) ex w hp K) (one : ∀ z ∈ csD K tf, ∀ y ∈ csD K tf, z.p = y.p → z.q = y.q) : CsOk K hp (csD K tf) := by
  refine ⟨fun z hz => ?_, fun z hz => ?_, fun z hz => ?_, one⟩
  all_goals
    obtain ⟨p, hp2, rfl⟩ := List.mem_map.mp hz
    have hm : p.1 ∈ tf.map Prod.fst := List.mem_map_of_mem hp2
  · exact c.empty _ hm
  · exact c.out _ hm
  · exact codeHd_of_K kin (c.hd _ hm)
end Mi
set_option Elab.async false
set_option linter.all false
set_option maxRecDepth 100000
set_option synthInstance.maxSize 2000
set_option synthInstance.maxHeartbeats 400000
namespace Mi
open PySem L2
@[reducible] def sv : Option D → Sl
  | none => .no
  | some d => .val d
def isVal : D → Bool
  | .own _ => false
  | .ref _ => false
  | .str _ => false
  | _ => true
theorem snap_val {d : D} (h : isVal d = true) (z : Z) : O.snap d z = d := by
  cases d <;> first | rfl | cases h
structure EqN {α : Type} [DecidableEq α] (n : Nat) (e : α → D) (f : α → PyData) : Prop where
  p : ∀ x, O.toP (e x) = some (f x)
  c : ∀ x, (f x).canLay0 = true
  d : ∀ x, (f x).depth ≤ n
  q : ∀ x y, PyData.eqv (f x) (f y) = decide (x = y)
/-- equality of data, whatever it is -/
def Pl.eqD (x y : D) : Option Bool := O.eqP x y ⟨[], []⟩
section
variable {α β γ δ ε ζ η : Type} [DecidableEq α] [DecidableEq β] [DecidableEq γ] [DecidableEq δ] [DecidableEq ε] [DecidableEq ζ] [DecidableEq η]
  {n m : Nat} {ea : α → D} {fa : α → PyData} {eb : β → D} {fb : β → PyData} {ec : γ → D} {fc : γ → PyData} {ed : δ → D} {fd : δ → PyData} {ee : ε → D} {fe : ε → PyData} {ef : ζ → D} {ff : ζ → PyData} {eg : η → D} {fg : η → PyData}
theorem EqN.eqP {e : α → D} {f : α → PyData} (h : EqN n e f) (hn : n ≤ 64) (x y : α) (z : Z) (hx : isVal (e x) = true) (hy : isVal (e y) = true) : O.eqP (e x) (e y) z = some (decide (x = y)) := by
  have e0 : O.eqP (e x) (e y) z = O.eqD (e x) (e y) z := by
    revert hx
    generalize e x = X
    intro hx
    cases X <;> first | rfl | cases hx
  rw [e0]
  unfold O.eqD
  rw [snap_val hx, snap_val hy, h.p, h.p]
  dsimp only
  rw [if_pos ⟨by unfold SeqAt.shaped; rw [h.c, decide_eq_true (Nat.le_trans (h.d x) hn)]; rfl, by unfold SeqAt.shaped; rw [h.c, decide_eq_true (Nat.le_trans (h.d y) hn)]; rfl⟩, h.q]
theorem EqN.mono {e : α → D} {f : α → PyData} (h : EqN n e f) (hn : n ≤ m) : EqN m e f := ⟨h.p, h.c, fun x => Nat.le_trans (h.d x) hn, h.q⟩
theorem EqN.I : EqN 0 eI PyData.int := ⟨fun _ => rfl, fun _ => by simp [PyData.canLay0], fun _ => by simp [PyData.depth], fun x y => by simp [PyData.eqv, Bool.beq_eq_decide_eq]⟩
theorem EqN.N : EqN 0 eN (fun _ => PyData.none) := ⟨fun _ => rfl, fun _ => by simp [PyData.canLay0], fun _ => by simp [PyData.depth], fun x y => by simp [PyData.eqv]⟩
def pO (f : α → PyData) : Option α → PyData
  | none => .none
  | some x => f x
theorem eqv_non {p : PyData} (h : p ≠ .none) : PyData.eqv .none p = false ∧ PyData.eqv p .none = false := by
  cases p <;> first | exact absurd rfl h | exact ⟨by simp [PyData.eqv], by simp [PyData.eqv]⟩
theorem EqN.O (h : EqN n ea fa) (hn : ∀ x, isNon (ea x) = false) : EqN n (eO ea) (pO fa) := by
  have nn : ∀ x, fa x ≠ .none := fun x e => by
    have h1 := h.p x
    rw [e] at h1
    have h2 := hn x
    revert h1 h2
    generalize ea x = d
    intro h1 h2
    cases d <;> first | (cases h2; done) | (rw [O.toP] at h1; first | (cases h1; done) | (cases q : O.toPs _ with | none => rw [q] at h1; cases h1 | some _ => rw [q] at h1; cases h1)) | (simp [O.toP] at h1; done)
  refine ⟨fun x => ?_, fun x => ?_, fun x => ?_, fun x y => ?_⟩
  · cases x with
    | none => rfl
    | some x => exact h.p x
  · cases x with
    | none => simp [pO, PyData.canLay0]
    | some x => exact h.c x
  · cases x with
    | none => simp [pO, PyData.depth]
    | some x => exact h.d x
  · cases x with
    | none => cases y with
      | none => simp [pO, PyData.eqv]
      | some y => rw [show pO fa none = .none from rfl, show pO fa (some y) = fa y from rfl, (eqv_non (nn y)).1]; simp
    | some x => cases y with
      | none => rw [show pO fa none = .none from rfl, show pO fa (some x) = fa x from rfl, (eqv_non (nn x)).2]; simp
      | some y => rw [show pO fa (some x) = fa x from rfl, show pO fa (some y) = fa y from rfl, h.q]; simp
theorem all_map {xs : List α} (h : EqN n ea fa) : O.toPs (xs.map ea) = some (xs.map fa) ∧ PyData.canLayAll0 (xs.map fa) = true ∧ PyData.depthAll (xs.map fa) ≤ n := by
  induction xs with
  | nil => exact ⟨rfl, by simp [PyData.canLayAll0], by simp [PyData.depthAll]⟩
  | cons x xs ih =>
    refine ⟨?_, ?_, ?_⟩
    · rw [List.map_cons, List.map_cons, O.toPs, h.p, ih.1]
    · simp [PyData.canLayAll0, h.c x, ih.2.1]
    · have := h.d x
      simp [PyData.depthAll, ih.2.2]
      omega
theorem EqN.t2 (a : EqN n ea fa) (b : EqN n eb fb) : EqN (n + 1) (e2 ea eb) (fun p => .tuple [fa p.1, fb p.2]) := by
  refine ⟨fun p => ?_, fun p => ?_, fun p => ?_, fun p q => ?_⟩
  · simp [e2, O.toP, O.toPs, a.p, b.p]
  · simp [PyData.canLay0, PyData.canLayAll0, a.c, b.c]
  · have := a.d p.1
    have := b.d p.2
    simp [PyData.depth, PyData.depthAll]; omega
  · simp [PyData.eqv, PyData.eqvAll, a.q, b.q, Prod.ext_iff]
end
def Pl.out {σ ρ β : Type} (k : σ → β) (r : ρ → β) : σ ⊕ ρ → β
  | .inl s => k s
  | .inr x => r x
theorem Rf.thnX {α β ρ : Type} {a rest : C} {z : Z} {Φ : α → Fl → Z → Prop} {o : Option (β ⊕ ρ)} {K : β → Option α} {E : ρ → Option α} (J : β → Z → Prop) (RT : ρ → Fl → Z → Prop) (h1 : Rf o a z fun v f z' => match v with | .inl v => f = .nx ∧ J v z' | .inr r => (∃ d, f = .rt d) ∧ RT r f z') (k : ∀ v z', J v z' → Rf (K v) rest z' Φ)
    (q : ∀ r r' f z', E r = some r' → (∃ d, f = .rt d) ∧ RT r f z' → Φ r' f z') : Rf (o.bind (Pl.out K E)) (C.seq a rest) z Φ :=
  Rf.thnO J RT h1 k q
section
variable {α β γ : Type} {x y d : D} {a b m : M D} {z z1 z2 : Z} {s s' s1 s2 : List Sl} {h h1 : List D} {i j k : Int} {p q : Bool}
theorem ev_catP {e : α → D} {xs ys r : List α} (h1 : a z = some (x, z1)) (h2 : b z1 = some (y, z2)) (h3 : cont x z2 = some (false, xs.map e)) (h4 : cont y z2 = some (false, ys.map e)) (hx : noScr x = true) (hy : noScr y = true) (hr : Pl.cat xs ys = some r) : N.cat a b z = some (r.map e, z2) := by
  unfold Pl.cat at hr
  split at hr
  · rename_i hl
    cases hr
    rw [ev_cat h1 h2 h3 h4 hx hy (by rw [List.length_map, List.length_map]; exact hl), List.map_append]
  · cases hr
end
theorem Dr.q_draw {s : DS} {many : Int} (tl : List D) {r : Int × DS} (hr : Pl.draw s many = some r) : Dr.m_law_draw [.ref 1, .int many] (stT s tl) = some (.int r.1, stT r.2 tl) := by
  unfold Pl.draw at hr
  split at hr
  · rename_i c
    cases hr
    exact Dr.draw_evT tl s c.1 (Smn.of (by omega)) (by decide)
  · cases hr
section
variable {α β γ : Type} {x y d : D} {a b m : M D} {z z1 z2 : Z} {s s' s1 s2 : List Sl} {h h1 : List D} {Φ : α → Fl → Z → Prop} {rest : C}
theorem putFD_new {f : Str} {d : D} : ∀ {fs : List (Str × D)}, (fs.map Prod.fst).contains f = false → putFD f d fs = fs ++ [(f, d)]
  | [], _ => rfl
  | (k, x) :: fs, h => by
    rw [List.map_cons, List.contains_cons, Bool.or_eq_false_iff] at h
    have hk : ¬ k = f := fun e => by rw [e] at h; simp at h
    unfold putFD
    rw [if_neg hk, putFD_new h.2]
    rfl
theorem lookup_at {f : Str} {d : D} : ∀ {fs : List (Str × D)} {i : Nat}, fs[i]? = some (f, d) → ((fs.map Prod.fst).take i).contains f = false → fs.lookup f = some d
  | [], i, h, _ => by simp at h
  | (k, x) :: fs, 0, h, _ => by
    have h : (k, x) = (f, d) := Option.some.inj h
    cases h
    rw [List.lookup_cons, beq_self_eq_true]
  | (k, x) :: fs, i + 1, h, g => by
    rw [List.map_cons, List.take_succ_cons, List.contains_cons, Bool.or_eq_false_iff] at g
    rw [List.lookup_cons, g.1]
    exact lookup_at (i := i) h g.2
theorem lookup_atK {f : Str} {d : D} {fs : List (Str × D)} {ks : List Str} {i : Nat} (hk : fs.map Prod.fst = ks) (h : fs[i]? = some (f, d)) (g : (ks.take i).contains f = false) : fs.lookup f = some d := by
  subst hk
  exact lookup_at h g
theorem lookup_not {f : Str} : ∀ {fs : List (Str × D)}, (fs.map Prod.fst).contains f = false → (fs.lookup f).isNone = true
  | [], _ => rfl
  | (k, x) :: fs, h => by
    rw [List.map_cons, List.contains_cons, Bool.or_eq_false_iff] at h
    rw [List.lookup_cons, h.1]
    exact lookup_not h.2
end
theorem Rf.none {α : Type} {c : C} {z : Z} {Φ : α → Fl → Z → Prop} : Rf Option.none c z Φ := fun r e => by cases e
section
variable {α β γ : Type} {x y d : D} {a b m : M D} {z z1 z2 : Z} {s s' s1 s2 : List Sl} {h h1 : List D}
def Pl.setAt (xs : List α) (i : Int) (x : α) : Option (List α) := (ixN xs.length i).map fun k => xs.set k x
/-- xs[i] = e of a list that a slot owns -/
theorem Rf.setIx {δ : Type} {Φ : δ → Fl → Z → Prop} {rest : C} {i : Nat} {mi me : M D} {xs : List β} {j : Int} {t : β} {K : List β → Option δ} (e : β → D) (he : me z = some (e t, z1)) (hi : s[i]? = some (.own (.lst (xs.map e)))) (hm : z1 = ⟨s, h⟩) (hj : mi ⟨s, h⟩ = some (.int j, ⟨s, h1⟩)) (hp : isPure (e t) = true) {s' : List β → List Sl} (hs : ∀ ys : List β, s.set i (.own (.lst (ys.map e))) = s' ys) (k : ∀ ys, Rf (K ys) rest ⟨s' ys, h1⟩ Φ) :
    Rf ((Pl.setAt xs j t).bind K) (C.seq (C.setIx (E.var i) mi me) rest) z Φ := Rf.bd fun ys hy => by
  subst hm
  unfold Pl.setAt at hy
  cases hn : ixN xs.length j with
  | none => rw [hn] at hy; cases hy
  | some n =>
    rw [hn] at hy
    cases hy
    refine (k (xs.set n t)).nx ?_
    rw [← hs]
    refine cs_setIxO he (ev_varO hi) hj hp hi ?_
    unfold U.setAt
    rw [List.length_map, hn]
    show some ((xs.map e).set n (e t)) = _
    rw [List.map_set]
end
end Mi
set_option Elab.async false
set_option linter.all false
set_option maxRecDepth 100000
namespace Mi
open PySem L2
/-- o is told, and Φ holds of it -/
def Tot {α : Type} (o : Option α) (Φ : α → Prop) : Prop := ∃ r, o = some r ∧ Φ r
section
variable {α β γ σ ρ : Type} {o : Option α} {Φ Ψ : α → Prop}
theorem Tot.some {r : α} (h : Φ r) : Tot (some r) Φ := ⟨r, rfl, h⟩
theorem Tot.imp (h : Tot o Ψ) (i : ∀ r, Ψ r → Φ r) : Tot o Φ := by
  obtain ⟨r, e, q⟩ := h
  exact ⟨r, e, i r q⟩
theorem Tot.bind {o : Option β} {K : β → Option α} {Ψ : β → Prop} (h : Tot o Ψ) (k : ∀ r, Ψ r → Tot (K r) Φ) : Tot (o.bind K) Φ := by
  obtain ⟨r, e, q⟩ := h
  obtain ⟨r2, e2, q2⟩ := k r q
  exact ⟨r2, by rw [e]; exact e2, q2⟩
theorem Tot.of {o : Option β} {K : β → Option α} {r : β} (h : o = Option.some r) (k : Tot (K r) Φ) : Tot (o.bind K) Φ := by subst h; exact k
theorem Tot.nm {K : β → Option α} {r : β} (k : Tot (K r) Φ) : Tot ((Option.some r).bind K) Φ := k
theorem Tot.ite {p : Bool} {a b : Option α} (h1 : p = true → Tot a Φ) (h2 : p = false → Tot b Φ) : Tot (if p = true then a else b) Φ := by
  cases p with
  | true => exact h1 rfl
  | false => exact h2 rfl
theorem Tot.iteT {p : Bool} {a b : Option α} (hp : p = true) (h1 : Tot a Φ) : Tot (if p = true then a else b) Φ := by subst hp; exact h1
theorem Tot.iteF {p : Bool} {a b : Option α} (hp : p = false) (h1 : Tot b Φ) : Tot (if p = true then a else b) Φ := by subst hp; exact h1
theorem Tot.eq {r : α} (h : o = Option.some r) (q : Φ r) : Tot o Φ := ⟨r, h, q⟩
theorem Tot.get {r : α} (h : Tot o fun x => x = r) : o = Option.some r := by
  obtain ⟨x, e, rfl⟩ := h
  exact e
theorem Tot.draw {s : DS} {many : Int} {K : Int × DS → Option α} (h : 0 < many) (h2 : many ≤ 1000000000000) (k : ∀ (v : Int) (s2 : DS), 0 ≤ v → v < many → Tot (K (v, s2)) Φ) : Tot ((Pl.draw s many).bind K) Φ := by
  refine Tot.of (r := (drawV s many, drawS s many)) ?_ (k _ _ (drawV_nn s h) (drawV_lt s h))
  unfold Pl.draw
  rw [if_pos ⟨h, h2⟩]
theorem Tot.take {s : TS} {many : Int} {K : Int × TS → Option α} (h : 0 < many) (k : ∀ (v : Int) (s2 : TS), 0 ≤ v → v < many → Tot (K (v, s2)) Φ) : Tot ((Pl.take s many).bind K) Φ := by
  refine Tot.of (r := (takeV s many, takeS s)) ?_ (k _ _ (takeV_nn s h) (takeV_lt s h))
  unfold Pl.take
  rw [if_pos h]
/-- for, by what holds of what is left -/
theorem Tot.loopN {f : β → σ → Option σ} {Q : σ → Prop} (I : List β → σ → Prop) (step : ∀ x xs s, I (x :: xs) s → Tot (f x s) fun s2 => I xs s2) (fin : ∀ s, I [] s → Q s) : ∀ (xs : List β) (s : σ), I xs s → Tot (Pl.forN f xs s) Q
  | [], s, h => ⟨s, rfl, fin s h⟩
  | x :: xs, s, h => by
    obtain ⟨s2, e, q⟩ := step x xs s h
    obtain ⟨s3, e3, q3⟩ := Tot.loopN I step fin xs s2 q
    exact ⟨s3, by rw [Pl.forN, e]; exact e3, q3⟩
theorem Tot.forN {f : β → σ → Option σ} {xs : List β} {s : σ} {K : σ → Option α} (I : List β → σ → Prop) (h0 : I xs s) (step : ∀ x xs s, I (x :: xs) s → Tot (f x s) fun s2 => I xs s2) (k : ∀ s, I [] s → Tot (K s) Φ) : Tot ((Pl.forN f xs s).bind K) Φ :=
  Tot.bind (Tot.loopN (Q := fun s => I [] s) I step (fun _ h => h) xs s h0) k
/-- .. over the turns of a range -/
theorem rng_cons {a b : Int} (h : a < b) : Pl.rng a b = a :: Pl.rng (a + 1) b := by
  unfold Pl.rng
  obtain ⟨n, hn⟩ : ∃ n : Nat, b - a = n + 1 := ⟨(b - a - 1).toNat, by omega⟩
  have e1 : (b - a).toNat = n + 1 := by omega
  have e2 : (b - (a + 1)).toNat = n := by omega
  rw [e1, e2, List.range_succ_eq_map, List.map_cons, List.map_map]
  rw [List.cons.injEq]
  refine ⟨by simp, ?_⟩
  apply List.map_congr_left
  intro i _
  simp only [Function.comp]
  push_cast
  omega
theorem rng_nil {a b : Int} (h : b ≤ a) : Pl.rng a b = [] := by
  unfold Pl.rng
  have e : (b - a).toNat = 0 := by omega
  rw [e]
  rfl
theorem rng_mem {a b n : Int} : n ∈ Pl.rng a b ↔ a ≤ n ∧ n < b := by
  unfold Pl.rng
  simp only [List.mem_map, List.mem_range]
  constructor
  · rintro ⟨i, hi, rfl⟩
    omega
  · rintro ⟨h1, h2⟩
    exact ⟨(n - a).toNat, by omega, by omega⟩
theorem rng_len {a b : Int} : (Pl.rng a b).length = (b - a).toNat := by unfold Pl.rng; simp
theorem Tot.rngO {a b : Int} {K : List Int → Option α} (h : (-(2 ^ 62) ≤ a ∧ a < 2 ^ 62) ∧ -(2 ^ 62) ≤ b ∧ b < 2 ^ 62) (k : Tot (K (Pl.rng a b)) Φ) : Tot ((Pl.rngO a b).bind K) Φ := by
  refine Tot.of (r := Pl.rng a b) ?_ k
  unfold Pl.rngO
  rw [if_pos h]
theorem Tot.loopR {f : Int → σ → Option σ} {Q : σ → Prop} (I : Int → σ → Prop) (b : Int) (step : ∀ i s, i < b → I i s → Tot (f i s) fun s2 => I (i + 1) s2) (fin : ∀ s, I b s → Q s) : ∀ (n : Nat) (a : Int) (s : σ), b - a = n → I a s → Tot (Pl.forN f (Pl.rng a b) s) Q
  | 0, a, s, hn, h => by
    have : a = b := by omega
    subst this
    rw [rng_nil (Int.le_refl _)]
    exact ⟨s, rfl, fin s h⟩
  | n + 1, a, s, hn, h => by
    have hab : a < b := by omega
    rw [rng_cons hab]
    obtain ⟨s2, e, q⟩ := step a s hab h
    obtain ⟨s3, e3, q3⟩ := Tot.loopR I b step fin n (a + 1) s2 (by omega) q
    exact ⟨s3, by rw [Pl.forN, e]; exact e3, q3⟩
theorem Tot.forR {f : Int → σ → Option σ} {a b : Int} {s : σ} {K : σ → Option α} (I : Int → σ → Prop) (hab : a ≤ b) (h0 : I a s) (step : ∀ i s, a ≤ i → i < b → I i s → Tot (f i s) fun s2 => I (i + 1) s2) (k : ∀ s, I b s → Tot (K s) Φ) : Tot ((Pl.forN f (Pl.rng a b) s).bind K) Φ :=
  Tot.bind (Tot.loopR (Q := fun s => I b s) (fun i s => a ≤ i ∧ I i s) b (fun i s hi h => (step i s h.1 hi h.2).imp fun s2 q => ⟨by omega, q⟩) (fun _ h => h.2) (b - a).toNat a s (by omega) ⟨Int.le_refl _, h0⟩) k
/-- for with exits: an invariant over what is left; what holds when it is left -/
theorem Tot.loopO {f : β → σ → Option (Pl.Out σ ρ)} {Q : σ ⊕ ρ → Prop} (I : List β → σ → Prop) (step : ∀ x xs s, I (x :: xs) s → Tot (f x s) fun o => match o with | .go s2 => I xs s2 | .brk s2 => Q (.inl s2) | .ret r => Q (.inr r)) (fin : ∀ s, I [] s → Q (.inl s)) : ∀ (xs : List β) (s : σ), I xs s → Tot (Pl.forO f xs s) Q
  | [], s, h => ⟨.inl s, rfl, fin s h⟩
  | x :: xs, s, h => by
    obtain ⟨o, e, q⟩ := step x xs s h
    cases o with
    | go s2 =>
      obtain ⟨s3, e3, q3⟩ := Tot.loopO I step fin xs s2 q
      exact ⟨s3, by rw [Pl.forO, e]; exact e3, q3⟩
    | brk s2 => exact ⟨.inl s2, by rw [Pl.forO, e], q⟩
    | ret r => exact ⟨.inr r, by rw [Pl.forO, e], q⟩
theorem Tot.forO {f : β → σ → Option (Pl.Out σ ρ)} {xs : List β} {s : σ} {K : σ → Option α} {E : ρ → Option α} (I : List β → σ → Prop) (QB : σ → Prop) (QR : ρ → Prop) (h0 : I xs s) (step : ∀ x xs s, I (x :: xs) s → Tot (f x s) fun o => match o with | .go s2 => I xs s2 | .brk s2 => QB s2 | .ret r => QR r)
    (k : ∀ s, I [] s ∨ QB s → Tot (K s) Φ) (kr : ∀ r, QR r → Tot (E r) Φ) : Tot ((Pl.forO f xs s).bind (Pl.out K E)) Φ := by
  refine Tot.bind (Tot.loopO (Q := fun o => match o with | .inl s => I [] s ∨ QB s | .inr r => QR r) I (fun x xs s h => (step x xs s h).imp fun o q => ?_) (fun s h => .inl h) xs s h0) fun o q => ?_
  · cases o with
    | go s2 => exact q
    | brk s2 => exact .inr q
    | ret r => exact q
  · cases o with
    | inl s => exact k s q
    | inr r => exact kr r q
theorem Tot.whO {t : σ → Option Bool} {f : σ → Option (Pl.Out σ ρ)} {Q : σ ⊕ ρ → Prop} (I : Nat → σ → Prop) (step : ∀ n s, I n s → Tot (t s) fun p => (p = false → Q (.inl s)) ∧ (p = true → Tot (f s) fun o => match o with | .go s2 => ∃ m, m < n ∧ I m s2 | .brk s2 => Q (.inl s2) | .ret r => Q (.inr r))) : ∀ (n : Nat) (s : σ), I n s → Tot (Pl.whO t f s) Q := by
  intro n
  induction n using Nat.strongRecOn with
  | ind n ih =>
    intro s h
    obtain ⟨p, e, q1, q2⟩ := step n s h
    cases p with
    | false => exact ⟨.inl s, by rw [Pl.whO, e], q1 rfl⟩
    | true =>
      obtain ⟨o, e2, q⟩ := q2 rfl
      cases o with
      | go s2 =>
        obtain ⟨m, hm, q⟩ := q
        obtain ⟨r, e3, q3⟩ := ih m hm s2 q
        exact ⟨r, by rw [Pl.whO, e]; dsimp only; rw [e2]; exact e3, q3⟩
      | brk s2 => exact ⟨.inl s2, by rw [Pl.whO, e]; dsimp only; rw [e2], q⟩
      | ret r => exact ⟨.inr r, by rw [Pl.whO, e]; dsimp only; rw [e2], q⟩
theorem Tot.wh {t : σ → Option Bool} {f : σ → Option (Pl.Out σ ρ)} {s : σ} {K : σ → Option α} {E : ρ → Option α} (I : Nat → σ → Prop) (QB : σ → Prop) (QR : ρ → Prop) (n : Nat) (h0 : I n s) (step : ∀ n s, I n s → Tot (t s) fun p => (p = false → QB s) ∧ (p = true → Tot (f s) fun o => match o with | .go s2 => ∃ m, m < n ∧ I m s2 | .brk s2 => QB s2 | .ret r => QR r))
    (k : ∀ s, QB s → Tot (K s) Φ) (kr : ∀ r, QR r → Tot (E r) Φ) : Tot ((Pl.whO t f s).bind (Pl.out K E)) Φ := by
  refine Tot.bind (Tot.whO (Q := fun o => match o with | .inl s => QB s | .inr r => QR r) I (fun n s h => (step n s h).imp fun p q => ⟨q.1, fun hp => (q.2 hp).imp fun o q => ?_⟩) n s h0) fun o q => ?_
  · cases o with
    | go s2 => exact q
    | brk s2 => exact q
    | ret r => exact q
  · cases o with
    | inl s => exact k s q
    | inr r => exact kr r q
theorem comp_t {p : β → Bool} {f : β → γ} : ∀ xs : List β, Pl.cmp (fun x => some (p x)) (fun x => some (f x)) xs = some ((xs.filter p).map f)
  | [] => rfl
  | x :: xs => by
    rw [Pl.cmp]
    show (if p x = true then (some (f x)).bind fun y => (Pl.cmp _ _ xs).bind fun ys => some (y :: ys) else Pl.cmp _ _ xs) = _
    rw [comp_t xs]
    cases h : p x with
    | true => rw [if_pos rfl, List.filter_cons_of_pos h]; rfl
    | false => rw [if_neg (by decide), List.filter_cons_of_neg (by rw [h]; decide)]
theorem comp_tt {p : β → Bool} {f : β → γ} {xs : List β} (h : xs.length ≤ szl) : Pl.comp (fun x => some (p x)) (fun x => some (f x)) xs = some ((xs.filter p).map f) := by
  unfold Pl.comp
  rw [if_pos h, comp_t]
theorem filt_true {xs : List β} : xs.filter (fun _ => true) = xs := List.filter_eq_self.mpr fun _ _ => rfl
/-- .. whose tests and elements are told of the members -/
theorem cmp_e {t : β → Option Bool} {g : β → Option γ} {p : β → Bool} {f : β → γ} : ∀ {xs : List β}, (∀ x ∈ xs, t x = some (p x) ∧ (p x = true → g x = some (f x))) → Pl.cmp t g xs = some ((xs.filter p).map f)
  | [], _ => rfl
  | x :: xs, h => by
    obtain ⟨h1, h2⟩ := h x List.mem_cons_self
    have ih := cmp_e (xs := xs) fun y hy => h y (List.mem_cons_of_mem _ hy)
    rw [Pl.cmp, h1]
    show (if p x = true then (g x).bind fun y => (Pl.cmp t g xs).bind fun ys => some (y :: ys) else Pl.cmp t g xs) = _
    rw [ih]
    cases hp : p x with
    | true => rw [if_pos rfl, List.filter_cons_of_pos hp, h2 hp]; rfl
    | false => rw [if_neg (by decide), List.filter_cons_of_neg (by rw [hp]; decide)]
theorem comp_e {t : β → Option Bool} {g : β → Option γ} {xs : List β} (p : β → Bool) (f : β → γ) (hl : xs.length ≤ szl) (h : ∀ x ∈ xs, t x = some (p x) ∧ (p x = true → g x = some (f x))) : Pl.comp t g xs = some ((xs.filter p).map f) := by
  unfold Pl.comp
  rw [if_pos hl, cmp_e h]
theorem comp_em {g : β → Option γ} {xs : List β} (f : β → γ) (hl : xs.length ≤ szl) (h : ∀ x ∈ xs, g x = some (f x)) : Pl.comp (fun _ => some true) g xs = some (xs.map f) := by
  rw [comp_e (fun _ => true) f hl fun x hx => ⟨rfl, fun _ => h x hx⟩, filt_true]
theorem app_t {xs : List β} {x : β} (h : xs.length < szl) : Pl.app xs x = some (xs ++ [x]) := if_pos h
theorem cat_t {xs ys : List β} (h : xs.length + ys.length < szl) : Pl.cat xs ys = some (xs ++ ys) := if_pos h
theorem mul_t {i j : Int} {n m : Nat} (hi : Smn n i) (hj : Smn m j) (hn : n ≤ bigN) (hm : m ≤ bigN) : Pl.mul i j = some (i * j) := if_pos ⟨hi.up hn, hj.up hm⟩
theorem mul64 {i j : Int} (hi : -9223372036854775808 ≤ i ∧ i ≤ 9223372036854775807) (hj : -9223372036854775808 ≤ j ∧ j ≤ 9223372036854775807) : Pl.mul i j = some (i * j) := mul_t (Smn.of hi) (Smn.of hj) (by decide) (by decide)
theorem div64 {i j : Int} (h : 0 < j) (hj : j ≤ 9223372036854775807) : Pl.div i j = some (i / j) := if_pos ⟨h, (Smn.of ⟨by omega, hj⟩).up (by decide)⟩
theorem mod_t {i j : Int} (h : 0 < j) : Pl.mod i j = some (i % j) := if_pos h
theorem at_t {xs : List β} {i : Int} {n : Nat} {x : β} (hi : i = (n : Int)) (h : xs[n]? = some x) : Pl.at_ xs i = some x := by
  subst hi
  exact atI_nat h
theorem at_in {xs : List β} {i : Int} (h0 : 0 ≤ i) (h : i < xs.length) : ∃ x, xs[i.toNat]? = some x ∧ Pl.at_ xs i = some x := by
  have hl : i.toNat < xs.length := by omega
  exact ⟨_, List.getElem?_eq_getElem hl, at_t (n := i.toNat) (by omega) (List.getElem?_eq_getElem hl)⟩
theorem at_last {xs : List β} {x : β} : Pl.at_ (xs ++ [x]) (-1) = some x := by
  have e : ixN (xs ++ [x]).length (-1) = some xs.length := by
    unfold ixN
    rw [if_neg (by decide), List.length_append, List.length_singleton, if_pos (by omega)]
    congr 1
    omega
  unfold Pl.at_ atI
  rw [e]
  show (xs ++ [x])[xs.length]? = _
  rw [List.getElem?_append_right (Nat.le_refl _), Nat.sub_self]
  rfl
theorem andO_t {p q : Bool} : Pl.andO p (some q) = some (p && q) := by cases p <;> rfl
theorem orO_t {p q : Bool} : Pl.orO p (some q) = some (p || q) := by cases p <;> rfl
end
end Mi
set_option Elab.async false
set_option linter.all false
set_option maxRecDepth 100000
namespace Mi
open PySem PySem.Spec PyProof.Rows L2
theorem lookup_notK {f : Str} {fs : List (Str × D)} {ks : List Str} (hk : fs.map Prod.fst = ks) (h : ks.contains f = false) : (fs.lookup f).isNone = true := lookup_not (by rw [hk]; exact h)
structure KEnc (κ : Type) where
  k : κ → Key
  inj : ∀ a b, k a = k b → a = b
structure TEnc (κ : Type) where
  k : κ → List Key
  inj : ∀ a b, k a = k b → a = b
section
variable {α β γ δ κ : Type}
def y3 (a : KEnc α) (b : KEnc β) (c : KEnc γ) : TEnc (α × β × γ) := ⟨fun p => [a.k p.1, b.k p.2.1, c.k p.2.2], fun p q h => by
  rw [List.cons.injEq, List.cons.injEq, List.cons.injEq] at h
  exact Prod.ext (a.inj _ _ h.1) (Prod.ext (b.inj _ _ h.2.1) (c.inj _ _ h.2.2.1))⟩
@[reducible] def eK (y : KEnc κ) (e : α → D) (kvs : List (κ × α)) : D := .dk (kvs.map fun kv => (y.k kv.1, e kv.2))
@[reducible] def eT (y : TEnc κ) (e : α → D) (kvs : List (κ × α)) : D := .dt (kvs.map fun kv => (y.k kv.1, e kv.2))
namespace Pl
variable [DecidableEq κ]
def dput (kvs : List (κ × α)) (k : κ) (v : α) : Option (List (κ × α)) := if kvs.length < szl then some (putG kvs k v) else none
end Pl
variable [DecidableEq κ]
end
section
variable {α β γ σ ρ κ : Type} {o : Option α} {m a b c : M D} {rest : C} {x y w cc : D} {z z1 z2 z3 : Z} {s s' : List Sl} {h : List D} {Φ : α → Fl → Z → Prop} [DecidableEq κ]
theorem Rf.frzD {i : Nat} {d : D} (h1 : s[i]? = some (.own d)) (hd : C.isDict d = true) (hs : s.set i (.val d) = s') (k : Rf o rest ⟨s', h⟩ Φ) : Rf o (C.seq (C.frzD i) rest) ⟨s, h⟩ Φ := k.nx (cs_frzD h1 hd hs)
theorem Rf.retD {n : Nat} {d : D} {r : α} (he : m z = some (.own n, ⟨s, h⟩)) (hn : s[n]? = some (.own d)) (hd : C.isDict d = true) (q : Φ r (.rt d) ⟨s.set n .no, h⟩) : Rf (some r) (C.seq (C.retD m) rest) z Φ := fun r' e => by
  cases e
  exact ⟨_, _, cs_rt (cs_retD he hn hd), q⟩
theorem cutL_map {xs : List β} {e : β → D} {lo hi : Option Int} : N.cutL (xs.map e) lo hi = (N.cutL xs lo hi).map e := by
  unfold N.cutL
  rw [List.length_map, List.map_take, List.map_drop]
theorem ev_sliceP {lo hi : Option (M D)} {l u : Option Int} {xs : List β} {e : β → D} (h1 : a z = some (x, z1)) (h2 : N.part lo z1 = some (l, z2)) (h3 : N.part hi z2 = some (u, z3)) (h4 : cont x z3 = some (false, xs.map e)) : N.slice a lo hi z = some ((N.cutL xs l u).map e, z3) := by
  rw [ev_slice h1 h2 h3 h4, cutL_map]
end
end Mi
set_option Elab.async false
set_option linter.all false
set_option maxRecDepth 100000
set_option maxHeartbeats 4000000
namespace Mi
open PySem PySem.Spec PyProof.Rows L2
end Mi
set_option Elab.async false
set_option linter.all false
set_option maxRecDepth 100000
set_option maxHeartbeats 4000000
namespace Mi
open PySem PySem.Spec PyProof.Rows L2
end Mi
set_option Elab.async false
set_option linter.all false
set_option maxRecDepth 100000
set_option maxHeartbeats 400000
namespace Mi
open PySem PySem.Spec PyProof.Rows L2
end Mi
set_option Elab.async false
set_option linter.all false
set_option maxRecDepth 100000
set_option maxHeartbeats 1000000
namespace Mi
open PySem L2
end Mi
set_option Elab.async false
set_option linter.all false
set_option maxRecDepth 100000
set_option maxHeartbeats 1000000
namespace Mi
open PySem PySem.Spec PyProof.Rows L2
end Mi
set_option Elab.async false
set_option linter.all false
set_option maxRecDepth 100000
set_option maxHeartbeats 400000
namespace Mi
open PySem PySem.Spec PyProof.Rows L2
/-- names from m on are put as what stands there -/
def unr : Nat → Nat → List D → D → D
  | n + 1, m, xs, .tup ds => .tup (ds.map (unr n m xs))
  | n + 1, m, xs, .lst ds => .lst (ds.map (unr n m xs))
  | n + 1, m, xs, .dk kvs => .dk (kvs.map fun kv => (kv.1, unr n m xs kv.2))
  | n + 1, m, xs, .dt kvs => .dt (kvs.map fun kv => (kv.1, unr n m xs kv.2))
  | _ + 1, m, xs, .ref k => if k < m then .ref k else (xs[k - m]?).getD .non
  | _, _, _, d => d
def isLs : D → Bool
  | .lst _ => true
  | _ => false
def unrOk : Nat → Nat → List D → D → Bool
  | n + 1, m, xs, .tup ds => ds.all (unrOk n m xs)
  | n + 1, m, xs, .lst ds => ds.all (unrOk n m xs)
  | n + 1, m, xs, .dk kvs => kvs.all fun kv => unrOk n m xs kv.2
  | n + 1, m, xs, .dt kvs => kvs.all fun kv => unrOk n m xs kv.2
  | _ + 1, m, xs, .ref k => decide (k < m) || (match xs[k - m]? with | some x => isLs x && blw 12 m x | none => false)
  | n, m, _, d => blw n m d
section
variable {K : Kx} {F F' F2 F0 : Hp} {rho t : List Addr} {H : Hp}
theorem Ob.blw {m n : Nat} (hm : rho.length = m) {a : Addr} {d : D} (h : Mi.blw (n + 1) m d = true) (o : Ob K F (rho ++ t) H a d) : Ob K F rho H a d := by
  have ls : ∀ {ds : List D} {vs : List V}, ds.all (Mi.blw n m) = true → Rps K F (rho ++ t) ds vs → Rps K F rho ds vs := fun {ds vs} hd rs => Rps.conv1 (fun d hd2 v r => r.blw hm n (List.all_eq_true.mp hd d hd2)) rs
  have al : ∀ {κ : Type} {kvs : List (κ × D)}, (kvs.all fun kv => Mi.blw n m kv.2) = true → (kvs.map Prod.snd).all (Mi.blw n m) = true := fun {κ kvs} h => by
    rw [List.all_map]
    exact h
  cases d <;> try exact o.elim
  · obtain ⟨qs, e, r, k, l⟩ := o
    exact ⟨qs, e, ls (by simpa only [Mi.blw] using h) r, k, l⟩
  · obtain ⟨xs, e, r⟩ := o
    exact ⟨xs, e, ls (by simpa only [Mi.blw] using h) r⟩
  · obtain ⟨xs, e, k, r⟩ := o
    exact ⟨xs, e, k, ls (al (by simpa only [Mi.blw] using h)) r⟩
  · obtain ⟨xs, e, k, r⟩ := o
    exact ⟨xs, e, k, ls (al (by simpa only [Mi.blw] using h)) r⟩
  · obtain ⟨C, dx, es, c, e, k, r⟩ := o
    exact ⟨C, dx, es, c, e, k, ls (al (by simpa only [Mi.blw] using h)) r⟩
theorem Rp.unr {m : Nat} {xs : List D} (hm : rho.length = m) (sf : Same F F2) (ob : ∀ (j : Nat) (ds : List D) (a : Addr), xs[j]? = some (.lst ds) → Mi.blw 12 m (.lst ds) = true → t[j]? = some a → Rp K F2 rho (.lst ds) (.ref a)) :
    ∀ (n : Nat) {d : D} {v : V}, unrOk n m xs d = true → Rp K F (rho ++ t) d v → Rp K F2 rho (Mi.unr n m xs d) v := by
  intro n
  induction n with
  | zero =>
    intro d v h r
    have h : Mi.blw 0 m d = true := by cases d <;> first | exact h | (simp [unrOk, Mi.blw] at h)
    have e : Mi.unr 0 m xs d = d := by cases d <;> rfl
    rw [e]
    exact (r.blw hm 0 h).mono sf (List.prefix_refl _)
  | succ n ih =>
    intro d v h r
    have ls : ∀ {ds : List D} {vs : List V}, ds.all (unrOk n m xs) = true → Rps K F (rho ++ t) ds vs → Rps K F2 rho (ds.map (Mi.unr n m xs)) vs := fun {ds vs} hd rs => Rps.conv (fun d hd2 v r => ih (List.all_eq_true.mp hd d hd2) r) rs
    have al : ∀ {κ : Type} {kvs : List (κ × D)}, (kvs.all fun kv => unrOk n m xs kv.2) = true → (kvs.map Prod.snd).all (unrOk n m xs) = true := fun {κ kvs} h => by
      rw [List.all_map]
      exact h
    have fs : ∀ {κ : Type} {kvs : List (κ × D)}, (kvs.map fun kv => (kv.1, Mi.unr n m xs kv.2)).map Prod.fst = kvs.map Prod.fst := fun {κ kvs} => by
      rw [List.map_map]; rfl
    have sn : ∀ {κ : Type} {kvs : List (κ × D)}, (kvs.map fun kv => (kv.1, Mi.unr n m xs kv.2)).map Prod.snd = (kvs.map Prod.snd).map (Mi.unr n m xs) := fun {κ kvs} => by
      rw [List.map_map, List.map_map]; rfl
    cases r with
    | non => exact .non
    | bl b => exact .bl b
    | int i => exact .int i
    | str x => exact .str x
    | tup e r => exact .tup (sf _ _ e) (ls (by simpa only [unrOk] using h) r)
    | lst e r => exact .lst (sf _ _ e) (ls (by simpa only [unrOk] using h) r)
    | kt e r => exact (Rp.blw hm (n + 1) (by simpa only [unrOk] using h) (.kt e r)).mono sf (List.prefix_refl _)
    | scr e r => exact (Rp.blw hm (n + 1) (by simpa only [unrOk] using h) (.scr e r)).mono sf (List.prefix_refl _)
    | ins c e k r => exact (Rp.blw hm (n + 1) (by simpa only [unrOk] using h) (.ins c e k r)).mono sf (List.prefix_refl _)
    | dk e k r => exact .dk (sf _ _ e) (k.trans fs.symm) (by rw [sn]; exact ls (al (by simpa only [unrOk] using h)) r)
    | dt e k r => exact .dt (sf _ _ e) (k.trans fs.symm) (by rw [sn]; exact ls (al (by simpa only [unrOk] using h)) r)
    | ref e =>
      rename_i k a
      simp only [unrOk, Bool.or_eq_true, decide_eq_true_eq] at h
      simp only [Mi.unr]
      by_cases c : k < m
      · rw [if_pos c]
        exact .ref (pre_short (by omega) e)
      · rw [if_neg c]
        have h := h.resolve_left c
        split at h
        · rename_i x hx
          rw [Bool.and_eq_true] at h
          rw [hx]
          rw [List.getElem?_append_right (by omega), hm] at e
          cases x <;> try (simp [isLs] at h; done)
          exact ob _ _ _ hx h.2 e
        · cases h
end
open Classical in
/-- a def's end: its shared objects are let go -/
noncomputable def gcV (h : List D) : Option (D × List D) → Option (D × List D)
  | some (d, h') => if h.length ≤ h'.length ∧ (∀ (i : Nat) (x : D), i < h.length → h'[i]? = some x → (h[i]? = some x ∨ blw 12 h.length x = true)) ∧ unrOk 12 h.length (h'.drop h.length) d = true then some (unr 12 h.length (h'.drop h.length) d, h'.take h.length) else none
  | none => none
noncomputable def gcF (mf : Fn) : Fn := fun xs h => gcV h (mf xs h)
theorem gc_ev {mf : Fn} {xs h ext : List D} {d d' : D} (e : mf xs h = some (d, h ++ ext)) (h1 : unrOk 12 h.length ext d = true) (h2 : unr 12 h.length ext d = d') : gcF mf xs h = some (d', h) := by
  unfold gcF gcV
  rw [e]
  dsimp only
  rw [List.drop_left, List.take_left, if_pos, h2]
  exact ⟨by rw [List.length_append]; omega, fun i x hi hx => .inl (by rw [← hx, List.getElem?_append_left hi]), h1⟩
theorem gc_sp {K : Kx} {n : Nat} {mf : Fn} {vs : List V} {H : Hp} {Q : VK} {E : XK} (h : spM n K (gcF mf) vs H Q E) : spM n K mf vs H Q E := by
  obtain ⟨hl, F, rho, h, ds, R, q, d, h1, e, k⟩ := h
  unfold gcF gcV at e
  split at e
  · rename_i d0 h' hm
    split at e
    · rename_i cc
      obtain ⟨c1, c2, c3⟩ := cc
      cases e
      refine ⟨hl, F, rho, h, ds, R, q, d0, h', hm, fun F' rho' H' v s1 p1 r fr nf nr rv => ?_⟩
      obtain ⟨ps, rfl⟩ := p1
      have lr : h.length = rho.length := R.len
      have up : ∀ {n : Nat} {a : Addr}, rho[n]? = some a → (rho ++ ps)[n]? = some a := fun {n a} e => by rw [List.getElem?_append_left (List.getElem?_eq_some_iff.mp e).1]; exact e
      have pg : ∀ {a : Addr}, a ∈ ps → ∃ j : Nat, (rho ++ ps)[j]? = some a ∧ rho.length ≤ j := fun {a} ha => by
        obtain ⟨j, hj, e⟩ := List.getElem_of_mem ha
        exact ⟨rho.length + j, by rw [List.getElem?_append_right (by omega), Nat.add_sub_cancel_left, List.getElem?_eq_getElem hj, e], by omega⟩
      have ne : ∀ {n : Nat} {a : Addr}, rho[n]? = some a → a ∉ ps := fun {n a} e ha => by
        obtain ⟨j, h1, h2⟩ := pg ha
        have h3 := r.inj _ _ _ (up e) h1
        have h4 := (List.getElem?_eq_some_iff.mp e).1
        omega
      have fp : ∀ {a : Addr}, a ∈ ps → F' a = none := fun {a} ha => by
        obtain ⟨j, h1, _⟩ := pg ha
        exact r.nf _ _ h1
      have hp : ∀ {a : Addr}, a ∈ ps → H a = none := fun {a} ha => by
        obtain ⟨j, h1, _⟩ := pg ha
        rcases nr _ _ h1 with ⟨m, h2⟩ | h2
        · exact absurd ha (ne h2)
        · exact h2
      have tp : ∀ p ∈ K.tb.t, p.1 ∉ ps := fun p hp ha => by
        obtain ⟨j, h1, _⟩ := pg ha
        exact r.tr p hp j h1
      let F2 : Hp := fun a => if a ∈ ps then H' a else F' a
      have f2 : ∀ {a : Addr}, a ∉ ps → F2 a = F' a := fun {a} ha => if_neg ha
      have f3 : ∀ {a : Addr}, a ∈ ps → F2 a = H' a := fun {a} ha => if_pos ha
      have sf : Same F' F2 := fun a u e => by
        rw [f2 fun ha => by rw [fp ha] at e; cases e]
        exact e
      have hob : ∀ (j : Nat) (ds : List D) (a : Addr), (h'.drop h.length)[j]? = some (.lst ds) → Mi.blw 12 h.length (.lst ds) = true → ps[j]? = some a → Rp K F2 rho (.lst ds) (.ref a) := fun j ds a e1 e2 e3 => by
        rw [List.getElem?_drop] at e1
        obtain ⟨xs, e4, e5⟩ := r.obs _ _ a e1 (by rw [List.getElem?_append_right (by omega), ← e3]; congr 1; omega)
        refine .lst (by rw [f3 (List.mem_of_getElem? e3)]; exact e4) ?_
        exact (Rps.conv1 (fun d hd v r2 => r2.blw lr.symm 11 (by
          simp only [Mi.blw] at e2
          exact List.all_eq_true.mp e2 d hd)) e5).mono sf (List.prefix_refl _)
      refine k F2 rho H' v (s1.trans sf) (List.prefix_refl _) ?_ fr (fun a o e1 nt e2 e3 => ?_) (fun n a e => .inl ⟨n, e⟩) (Rp.unr lr.symm sf hob 12 c3 rv)
      · refine ⟨fun a u e => ?_, by rw [List.length_take, ← lr]; omega, fun n x a e1 e2 => ?_, fun i j a e1 e2 => r.inj i j a (up e1) (up e2), fun n a e => by rw [f2 (ne e)]; exact r.nf n a (up e), r.tb.mono sf (fun _ _ => rfl) (fun p hp => by rw [f2 (tp p hp)]; exact r.tb.nf p hp), fun p hp n e => r.tr p hp n (up e)⟩
        · by_cases c : a ∈ ps
          · rw [f3 c] at e
            exact e
          · rw [f2 c] at e
            exact r.fro _ _ e
        · have hn : n < h.length := by
            have := (List.getElem?_eq_some_iff.mp e1).1
            rw [List.length_take] at this
            omega
          rw [List.getElem?_take_of_lt hn] at e1
          have o := r.obs n x a e1 (up e2)
          rcases c2 n x hn e1 with c | c
          · exact (Ob.short (R.obs n x a c e2) o).mono sf (List.prefix_refl _) rfl
          · exact (Ob.blw lr.symm c o).mono sf (List.prefix_refl _) rfl
      · have c : a ∉ ps := fun ha => by
          rw [hp ha] at e1
          cases e1
        rw [f2 c]
        exact nf a o e1 nt e2 e3
    · cases e
  · cases e
end Mi
set_option Elab.async false
set_option linter.all false
set_option maxRecDepth 100000
set_option maxHeartbeats 400000
namespace Mi
open PySem PySem.Spec PyProof.Rows L2
end Mi
set_option Elab.async false
set_option linter.all false
set_option maxRecDepth 100000
set_option maxHeartbeats 400000
namespace Mi
open PySem L2
section
variable {α β γ δ ε ζ κ : Type}
/-- no name in any e x, n levels deep -/
def BlE (n : Nat) (e : α → D) : Prop := ∀ (x : α) (m : Nat), blw n m (e x) = true
theorem blw_up {m : Nat} : ∀ (n : Nat) {d : D}, blw n m d = true → blw (n + 1) m d = true
  | 0, d, h => by cases d <;> first | rfl | (simp [blw] at h)
  | n + 1, d, h => by
    have all : ∀ {ι : Type} {l : List ι} {f : ι → D}, (l.all fun x => blw n m (f x)) = true → (l.all fun x => blw (n + 1) m (f x)) = true := fun {ι l f} h => List.all_eq_true.mpr fun x hx => blw_up n (List.all_eq_true.mp h x hx)
    cases d with
    | non => rfl
    | bl b => rfl
    | int i => rfl
    | str x => rfl
    | tup xs => simp only [blw] at h ⊢; exact all (f := fun x => x) h
    | kt xs => simp only [blw] at h ⊢; exact all (f := fun x => x) h
    | lst xs => simp only [blw] at h ⊢; exact all (f := fun x => x) h
    | scr xs => simp only [blw] at h ⊢; exact all (f := fun x => x) h
    | ref k => simpa only [blw] using h
    | own i => simp [blw] at h
    | dk kvs => simp only [blw] at h ⊢; exact all (f := fun x : _ × D => x.2) h
    | dt kvs => simp only [blw] at h ⊢; exact all (f := fun x : _ × D => x.2) h
    | ins nm fs => simp only [blw] at h ⊢; exact all (f := fun x : _ × D => x.2) h
theorem blw_mono {m n k : Nat} {d : D} (h : blw n m d = true) (hk : n ≤ k) : blw k m d = true := by
  obtain ⟨j, rfl⟩ := Nat.exists_eq_add_of_le hk
  clear hk
  induction j with
  | zero => exact h
  | succ j ih => exact blw_up _ ih
theorem BlE.mono {n k : Nat} {e : α → D} (h : BlE n e) (hk : n ≤ k) : BlE k e := fun x m => blw_mono (h x m) hk
theorem BlE.I : BlE 0 eI := fun x m => by simp [blw]
theorem BlE.N : BlE 0 eN := fun x m => by simp [blw]
theorem BlE.O {n : Nat} {e : α → D} (h : BlE n e) : BlE n (eO e) := fun x m => by
  cases x with
  | none => cases n <;> rfl
  | some v => exact h v m
theorem BlE.T {n : Nat} {Y : TEnc κ} {e : α → D} (h : BlE n e) : BlE (n + 1) (eT Y e) := fun x m => by
  show blw (n + 1) m (.dt (x.map fun kv => (Y.k kv.1, e kv.2))) = true
  simp only [blw, List.all_map]
  exact List.all_eq_true.mpr fun y _ => h y.2 m
theorem BlE.K {n : Nat} {Y : KEnc κ} {e : α → D} (h : BlE n e) : BlE (n + 1) (eK Y e) := fun x m => by
  show blw (n + 1) m (.dk (x.map fun kv => (Y.k kv.1, e kv.2))) = true
  simp only [blw, List.all_map]
  exact List.all_eq_true.mpr fun y _ => h y.2 m
theorem blw_tup {n m : Nat} {ds : List D} (h : ∀ d ∈ ds, blw n m d = true) : blw (n + 1) m (.tup ds) = true := by
  simp only [blw]
  exact List.all_eq_true.mpr h
theorem BlE.t2 {n : Nat} {a : α → D} {b : β → D} (h1 : BlE n a) (h2 : BlE n b) : BlE (n + 1) (e2 a b) := fun x m => blw_tup fun d hd => by
  simp only [List.mem_cons, List.not_mem_nil, or_false] at hd
  rcases hd with rfl | rfl
  · exact h1 _ m
  · exact h2 _ m
/-- what names no shared object from m on stays -/
theorem unr_id {m : Nat} {xs : List D} : ∀ (n : Nat) {d : D}, blw n m d = true → unrOk n m xs d = true ∧ unr n m xs d = d
  | 0, d, h => by cases d <;> first | exact ⟨rfl, rfl⟩ | (simp [blw] at h)
  | n + 1, d, h => by
    have a1 : ∀ {l : List D}, l.all (blw n m) = true → l.all (unrOk n m xs) = true ∧ l.map (unr n m xs) = l := fun {l} h => ⟨List.all_eq_true.mpr fun x hx => (unr_id n (List.all_eq_true.mp h x hx)).1, by
      rw [List.map_congr_left (g := id) fun x hx => (unr_id n (List.all_eq_true.mp h x hx)).2, List.map_id]⟩
    have a2 : ∀ {ι : Type} {l : List (ι × D)}, (l.all fun kv => blw n m kv.2) = true → (l.all fun kv => unrOk n m xs kv.2) = true ∧ (l.map fun kv => (kv.1, unr n m xs kv.2)) = l := fun {ι l} h => ⟨List.all_eq_true.mpr fun x hx => (unr_id n (List.all_eq_true.mp h x hx)).1, by
      rw [List.map_congr_left (g := id) fun x hx => by rw [(unr_id n (List.all_eq_true.mp h x hx)).2]; rfl, List.map_id]⟩
    cases d with
    | non => exact ⟨rfl, rfl⟩
    | bl b => exact ⟨rfl, rfl⟩
    | int i => exact ⟨rfl, rfl⟩
    | str x => exact ⟨rfl, rfl⟩
    | tup l => simp only [blw] at h; simp only [unrOk, unr]; exact ⟨(a1 h).1, by rw [(a1 h).2]⟩
    | lst l => simp only [blw] at h; simp only [unrOk, unr]; exact ⟨(a1 h).1, by rw [(a1 h).2]⟩
    | kt l => exact ⟨by simpa only [unrOk] using h, rfl⟩
    | scr l => exact ⟨by simpa only [unrOk] using h, rfl⟩
    | ins nm fs => exact ⟨by simpa only [unrOk] using h, rfl⟩
    | own i => simp [blw] at h
    | ref k =>
      simp only [blw, decide_eq_true_eq] at h
      simp only [unrOk, unr, if_pos h]
      exact ⟨by rw [decide_eq_true h]; rfl, trivial⟩
    | dk kvs => simp only [blw] at h; simp only [unrOk, unr]; exact ⟨(a2 h).1, by rw [(a2 h).2]⟩
    | dt kvs => simp only [blw] at h; simp only [unrOk, unr]; exact ⟨(a2 h).1, by rw [(a2 h).2]⟩
/-- .. at a def's end, where the value names nothing new -/
theorem gc_evP {mf : Fn} {xs h ext : List D} {e : α → D} {r : α} {n : Nat} (b : BlE n e) (hn : n ≤ 12) (q : mf xs h = some (e r, h ++ ext)) : gcF mf xs h = some (e r, h) :=
  have u := unr_id (m := h.length) (xs := ext) 12 (blw_mono (b r h.length) hn)
  gc_ev q u.1 u.2
end
end Mi
set_option Elab.async false
set_option linter.all false
set_option maxRecDepth 100000
set_option maxHeartbeats 400000
namespace Mi
open PySem PySem.Spec L2
theorem gc_ok {P : Program} {w : World} {K : Kx} {mg : Str → Option Value} {base : Heap} {CX : CXT} {k n : Nat} {f : Addr} {fd : FuncData} {ps : List Str} {mf : Fn} (F : FnOk P w K.k mg base CX k f fd ps (spM n K mf)) : FnOk P w K.k mg base CX k f fd ps (spM n K (gcF mf)) :=
  F.imp fun _ _ _ _ h => gc_sp h
theorem Rf.fnG {α : Type} {o : Option α} {c : C} {s : List Sl} {h : List D} {n k : Nat} {ds : List D} {e : α → D} {r : α} (hl : ds.length = k) (hs : slots n ds = s) (hb : Rf o c ⟨s, h⟩ fun r f z' => (f = .rt (e r) ∨ (f = .nx ∧ e r = .non)) ∧ ∃ ext, z'.h = h ++ ext) (hr : o = some r) : ∃ ext, Mi.fn n k c ds h = some (e r, h ++ ext) := by
  obtain ⟨f, z', e1, e2, ext, e3⟩ := hb r hr
  refine ⟨ext, ?_⟩
  have := Rf.fn (o := o) (c := c) (s := s) (h := h) (e := e) (hp := fun _ => h ++ ext) (r := r) hl hs (fun r' hr' => by
    rw [hr] at hr'
    cases hr'
    exact ⟨f, z', e1, e2, e3⟩) hr
  exact this
section
variable {α β : Type}
/-- what stands where -/
inductive Al2 {α β : Type} (P : α → β → Prop) : List α → List β → Prop
  | nil : Al2 P [] []
  | cons {x : α} {y : β} {xs : List α} {ys : List β} : P x y → Al2 P xs ys → Al2 P (x :: xs) (y :: ys)
theorem Al2.length {α β : Type} {P : α → β → Prop} {xs : List α} {ys : List β} (h : Al2 P xs ys) : xs.length = ys.length := by
  induction h with
  | nil => rfl
  | cons _ _ ih => rw [List.length_cons, List.length_cons, ih]
end
end Mi
set_option Elab.async false
set_option linter.all false
set_option maxRecDepth 100000
set_option maxHeartbeats 400000
namespace Mi
open PySem PySem.Spec PyProof.Rows L2
end Mi
set_option Elab.async false
set_option linter.all false
set_option maxRecDepth 100000
set_option maxHeartbeats 400000
namespace PySem.W
open PySem PySem.Calls PyProof.Rows
end PySem.W
namespace Mi
open PySem PySem.Spec PyProof.Rows L2 PySem.W
end Mi
set_option Elab.async false
set_option linter.all false
set_option maxRecDepth 100000
set_option maxHeartbeats 400000
namespace Mi
open PySem L2
section
variable {α β γ κ : Type}
structure KO (e : α → D) (k : α → List Int) (n d : Nat) : Prop where
  p : ∃ q : α → PyData, (∀ x, O.toP (e x) = some (q x)) ∧ (∀ x y, PySem.W.alike (q x) (q y) = true) ∧ (∀ x, (q x).depth ≤ d) ∧ (∀ x y, PyData.eqv (q x) (q y) = true ↔ k x = k y) ∧ (∀ x y, PySem.W.dataLt (q x) (q y) = decide (k x < k y)) ∧ ∀ x, (k x).length = n
structure KR (es : α → List D) (k : α → List Int) (n d : Nat) : Prop where
  p : ∃ qs : α → List PyData, (∀ x, O.toPs (es x) = some (qs x)) ∧ (∀ x y, PySem.W.alikeAll (qs x) (qs y) = true) ∧ (∀ x, PyData.depthAll (qs x) ≤ d) ∧ (∀ x y, PyData.eqvAll (qs x) (qs y) = true ↔ k x = k y) ∧ (∀ x y, PySem.W.rowLt (qs x) (qs y) = decide (k x < k y)) ∧ ∀ x, (k x).length = n
theorem app_lt {a b a' b' : List Int} (h : a.length = a'.length) : a ++ b < a' ++ b' ↔ a < a' ∨ (a = a' ∧ b < b') := by
  induction a generalizing a' with
  | nil =>
    cases a' with
    | nil => simp
    | cons _ _ => simp at h
  | cons x a ih =>
    cases a' with
    | nil => simp at h
    | cons y a' =>
      have := ih (a' := a') (by simpa using h)
      rw [List.cons_append, List.cons_append, List.cons_lt_cons_iff, List.cons_lt_cons_iff, this, List.cons.injEq]
      constructor
      · rintro (g | ⟨e, g | ⟨e2, g⟩⟩)
        · exact .inl (.inl g)
        · exact .inl (.inr ⟨e, g⟩)
        · exact .inr ⟨⟨e, e2⟩, g⟩
      · rintro ((g | ⟨e, g⟩) | ⟨⟨e, e2⟩, g⟩)
        · exact .inl g
        · exact .inr ⟨e, .inl g⟩
        · exact .inr ⟨e, .inr ⟨e2, g⟩⟩
theorem KO.int : KO eI (fun i => [i]) 1 0 := by
  refine ⟨fun i => .int i, fun _ => rfl, fun _ _ => by simp [PySem.W.alike], fun _ => by simp [PyData.depth], fun x y => by simp [PyData.eqv], fun x y => ?_, fun _ => rfl⟩
  rw [PySem.W.dataLt_int]
  congr 1
  simp [List.cons_lt_cons_iff]
theorem KO.comp {e : α → D} {k : α → List Int} {n d : Nat} (h : KO e k n d) (f : β → α) : KO (fun x => e (f x)) (fun x => k (f x)) n d := by
  obtain ⟨q, h1, h2, h3, h4, h5, h6⟩ := h.p
  exact ⟨fun x => q (f x), fun x => h1 _, fun x y => h2 _ _, fun x => h3 _, fun x y => h4 _ _, fun x y => h5 _ _, fun x => h6 _⟩
theorem KR.nil : KR (fun _ : α => []) (fun _ => []) 0 0 :=
  ⟨fun _ => [], fun _ => rfl, fun _ _ => by simp [PySem.W.alikeAll], fun _ => by simp [PyData.depthAll], fun _ _ => by simp [PyData.eqvAll], fun _ _ => by
    have : PySem.W.rowLt [] [] = false := PyProof.Rows.lex_irrefl _
    rw [this]; simp, fun _ => rfl⟩
theorem KR.cons {e : α → D} {es : α → List D} {k1 k2 : α → List Int} {n m d : Nat} (h : KO e k1 n d) (t : KR es k2 m d) : KR (fun x => e x :: es x) (fun x => k1 x ++ k2 x) (n + m) d := by
  obtain ⟨q, h1, h2, h3, h4, h5, h6⟩ := h.p
  obtain ⟨qs, t1, t2, t3, t4, t5, t6⟩ := t.p
  refine ⟨fun x => q x :: qs x, fun x => by rw [O.toPs, h1, t1], fun x y => by simp [PySem.W.alikeAll, h2, t2], fun x => ?_, fun x y => ?_, fun x y => ?_, fun x => by rw [List.length_append, h6, t6]⟩
  · have := h3 x
    have := t3 x
    simp only [PyData.depthAll]
    omega
  · simp only [PyData.eqvAll, Bool.and_eq_true]
    rw [h4, t4]
    exact ⟨fun ⟨a, b⟩ => by rw [a, b], fun h => List.append_inj h (by rw [h6, h6])⟩
  · unfold PySem.W.rowLt
    rw [PySem.W.dataLt_cons (h2 x y)]
    have e5 := t5 x y
    unfold PySem.W.rowLt at e5
    rw [e5, h5]
    have la : (k1 x).length = (k1 y).length := by rw [h6, h6]
    by_cases c : k1 x = k1 y
    · rw [if_pos ((h4 x y).mpr c)]
      rw [Bool.eq_iff_iff, decide_eq_true_eq, decide_eq_true_eq, app_lt la]
      exact ⟨fun h => .inr ⟨c, h⟩, fun h => by
        rcases h with h | h
        · rw [c] at h; exact absurd h (List.lt_irrefl _)
        · exact h.2⟩
    · rw [if_neg (fun h => c ((h4 x y).mp h))]
      rw [Bool.eq_iff_iff, decide_eq_true_eq, decide_eq_true_eq, app_lt la]
      exact ⟨.inl, fun h => by
        rcases h with h | h
        · exact h
        · exact absurd h.1 c⟩
theorem KO.mono {e : α → D} {k : α → List Int} {n d d' : Nat} (h : KO e k n d) (hd : d ≤ d') : KO e k n d' := by
  obtain ⟨q, h1, h2, h3, h4⟩ := h.p
  exact ⟨q, h1, h2, fun x => Nat.le_trans (h3 x) hd, h4⟩
theorem KR.mono {e : α → List D} {k : α → List Int} {n d d' : Nat} (h : KR e k n d) (hd : d ≤ d') : KR e k n d' := by
  obtain ⟨q, h1, h2, h3, h4⟩ := h.p
  exact ⟨q, h1, h2, fun x => Nat.le_trans (h3 x) hd, h4⟩
theorem KO.tup {es : α → List D} {k : α → List Int} {n d : Nat} (h : KR es k n d) : KO (fun x => .tup (es x)) k n (d + 1) := by
  obtain ⟨qs, h1, h2, h3, h4, h5, h6⟩ := h.p
  refine ⟨fun x => .tuple (qs x), fun x => by rw [O.toP, h1]; rfl, fun x y => by simp [PySem.W.alike, h2], fun x => ?_, fun x y => by simp only [PyData.eqv]; exact h4 x y, fun x y => ?_, h6⟩
  · have := h3 x
    simp only [PyData.depth]
    omega
  · rw [PySem.W.dataLt_tuple]
    exact h5 x y
end
end Mi
set_option Elab.async false
set_option linter.all false
set_option maxRecDepth 100000
set_option maxHeartbeats 1000000
namespace Mi
open PySem PySem.Spec PyProof.Rows L2
end Mi
set_option Elab.async false
set_option linter.all false
set_option maxRecDepth 100000
set_option maxHeartbeats 1000000
namespace Mi
open PySem PySem.Spec PyProof.Rows L2
section
variable {α β γ δ ε : Type}
@[reducible] def h2 (a : α → D) (b : β → D) (p : α × β) : D := .lst [a p.1, b p.2]
@[reducible] def h3 (a : α → D) (b : β → D) (c : γ → D) (p : α × β × γ) : D := .lst [a p.1, b p.2.1, c p.2.2]
@[reducible] def h4 (a : α → D) (b : β → D) (c : γ → D) (d : δ → D) (p : α × β × γ × δ) : D := .lst [a p.1, b p.2.1, c p.2.2.1, d p.2.2.2]
end
end Mi
set_option Elab.async false
set_option linter.all false
set_option maxRecDepth 100000
set_option maxHeartbeats 1000000
namespace L2
open PySem PySem.Spec PyProof.Rows
end L2
set_option Elab.async false
set_option linter.all false
set_option maxRecDepth 100000
set_option maxHeartbeats 1000000
namespace L2
open PySem PySem.Spec PyProof.Rows
end L2
namespace Mi
open PySem PySem.Spec PyProof.Rows L2
/-- an own exception: its class by name, its field, the text in it -/
structure Xn where
  nm : Str
  fd : Str
  s : Str
inductive FX where
  | fl (f : Fl) | ex (x : Xn)
abbrev CE := Z → Option (FX × Z)
abbrev ME := Z → Option ((D ⊕ Xn) × Z)
abbrev FnE := List D → List D → Option ((D ⊕ Xn) × List D)
namespace CE
def seq (a b : CE) : CE := fun z => match a z with
  | some (.fl .nx, z1) => b z1
  | r => r
def ite (t : M Bool) (a b : CE) : CE := fun z => match t z with
  | some (true, z1) => a z1
  | some (false, z1) => b z1
  | none => none
def drop (e : ME) : CE := fun z => match e z with
  | some (.inl _, z1) => some (.fl .nx, z1)
  | some (.inr x, z1) => some (.ex x, z1)
  | none => none
def ret (e : ME) : CE := fun z => match e z with
  | some (.inl d, z1) => if isPure d = true then some (.fl (.rt d), z1) else none
  | some (.inr x, z1) => some (.ex x, z1)
  | none => none
end CE
namespace EE
def call (mf : FnE) (as : List (M D)) : ME := fun z => match E.args as z with
  | some (xs, z1) => match mf xs z1.h with
    | some (r, h') => some (r, ⟨z1.s, h'⟩)
    | none => none
  | none => none
/-- o.m(..) -/
def meth (nm m : Str) (mf : FnE) (o : M D) (as : List (M D)) : ME := fun z => match o z with
  | some (x, z1) => match insOf x z1 with
    | some (nm2, fs) => if nm2 = nm ∧ (fs.lookup m).isNone = true then match E.args as z1 with
        | some (xs, z2) => match mf (x :: xs) z2.h with
          | some (r, h') => some (r, ⟨z2.s, h'⟩)
          | none => none
        | none => none
      else none
    | none => none
  | none => none
end EE
def exAt (K : Kx) (x : Xn) (H : Hp) (C dd : Addr) : Prop := (x.nm, C) ∈ K.tb.c ∧ H dd = some (.xd [(x.fd, .str x.s)])
def PostX (K : Kx) (W : WX) (B : Bs) (F : Hp) (rho : List Addr) (D : L2.Ends) (z' : Z) : FX → Prop
  | .fl f => Post K B F rho D z' f
  | .ex x => ∀ F' rho' om' σ' H' C dd, Same F F' → rho <+: rho' → Rl K B F' rho' om' z' σ' H' → exAt K x H' C dd → W (.ref C) (some dd) σ' H'
theorem PostX.mono {K : Kx} {W : WX} {B : Bs} {F F1 : Hp} {rho rho1 : List Addr} {D : L2.Ends} {z' : Z} {f : FX} (s : Same F F1) (p : rho <+: rho1) (h : PostX K W B F rho D z' f) : PostX K W B F1 rho1 D z' f := by
  cases f with
  | fl f => exact Post.mono s p h
  | ex x => exact fun F' rho' om' σ' H' C dd s' p' R => h F' rho' om' σ' H' C dd (s.trans s') (p.trans p') R
end Mi
set_option Elab.async false
set_option linter.all false
set_option maxRecDepth 100000
set_option maxHeartbeats 1000000
namespace Mi
open PySem PySem.Spec PyProof.Rows L2
end Mi
set_option Elab.async false
set_option linter.all false
set_option maxRecDepth 100000
set_option maxHeartbeats 1000000
namespace Mi
open PySem PySem.Spec PyProof.Rows L2
end Mi
set_option Elab.async false
set_option linter.all false
set_option maxRecDepth 100000
set_option maxHeartbeats 1000000
namespace Mi
open PySem PySem.Spec PyProof.Rows L2
section
variable {α β γ : Type} {z z1 : Z} {s s' s2 : List Sl} {h h1 : List D}
def Pl.popAt (xs : List α) (j : Int) : Option (α × List α) := if -(2 ^ 63) ≤ j ∧ j < 2 ^ 63 then (ixN xs.length j).bind fun k => (xs[k]?).bind fun x => some (x, xs.eraseIdx k) else none
end
end Mi
set_option Elab.async false
set_option linter.all false
set_option maxRecDepth 100000
set_option maxHeartbeats 1000000
namespace L2
open PySem PySem.Spec PyProof.Rows
end L2
namespace Mi
open PySem PySem.Spec PyProof.Rows L2
open Classical in
noncomputable def EE.mk (nm : Str) (mf : FnE) (g : List D → List D) (ms : List (M D)) : ME := fun z => match E.args ms z with
  | some (xs, z1) => match mf (.ref z1.h.length :: g xs) (z1.h ++ [.ins nm []]) with
    | some (.inl d0, h') => match mkV z1.h (some (d0, h')) with
      | some d => some (.inl d, z1)
      | none => none
    | some (.inr x, h') => if ∃ nm2 fs, h' = z1.h ++ [.ins nm2 fs] then some (.inr x, z1) else none
    | none => none
  | none => none
end Mi
set_option Elab.async false
set_option linter.all false
set_option maxRecDepth 100000
set_option maxHeartbeats 1000000
namespace L2
open PySem PySem.Spec PyProof.Rows
end L2
namespace Mi
open PySem PySem.Spec PyProof.Rows L2
/-- C(a, b, ..): the instance stays, by its name -/
def E.mkR (nm : Str) (mf : Fn) (ms : List (M D)) : M D := bnd (E.args ms) fun xs z => match mf (.ref z.h.length :: xs) (z.h ++ [.ins nm []]) with
  | some (.non, h') => some (.ref z.h.length, ⟨z.s, h'⟩)
  | _ => none
theorem mkR_go {K : Kx} {nm : Str} {C : Addr} {n : Nat} {mf : Fn} {ms : List (M D)} {Ee : XK} (hC : (nm, C) ∈ K.tb.c) (hm : ms.length = n) : ∀ σ H Q, Te K (E.mkR nm mf ms) σ H Q →
    tMake C (spM (n + 1) K mf) [] Ee (Ta K (E.args ms)) σ H Q := by
  rintro σ H Q ⟨B, F, rho, om, z, gg⟩
  refine (gg.bnd.imp fun _ _ H1 _ _ zs _ _ _ _ _ ⟨F2, rho2, z2, xs, eg1, s1, p1, r1, g1⟩ => ?_).tx (R := rA K)
  obtain ⟨R, d, z4, e, k⟩ := g1
  have hx := args_len eg1
  refine fun x dx hnx hdx hne => ?_
  rw [List.append_nil]
  dsimp only at e
  split at e
  · rename_i h' hd
    cases e
    have R1 := R.new (o := .own x) hdx
    have hx2 : (upd H1 dx (.own x)) x = none := by rw [upd_ne (show x ≠ dx from fun c => hne c.symm)]; exact hnx
    have R2 := R1.1.new (o := .ins C dx []) hx2
    have R3 := R2.1.share R2.2 (d := .ins nm []) ⟨C, dx, [], hC, upd_same, rfl, .nil⟩
    have a1 := r1.mono (Same.refl _) (List.prefix_append rho2 [x])
    refine ⟨by rw [List.length_cons, ← r1.length, hx, hm], F2, rho2 ++ [x], z2.h ++ [.ins nm []], .ref z2.h.length :: xs, R3.1.rh, .cons (.ref R3.2) a1, .non, _, hd, fun F' rho' H' v e1 e2 r fr nf nr q => ?_⟩
    have hv : v = .non := by cases q; rfl
    refine ⟨hv, ?_⟩
    have R4 := R3.1.called e1 e2 r fr nf nr
    have last : (rho2 ++ [x])[z2.h.length]? = some x := by rw [R.rh.len, List.getElem?_append_right (Nat.le_refl _), Nat.sub_self]; rfl
    have last2 : rho'[z2.h.length]? = some x := by
      obtain ⟨tl, ht⟩ := e2
      rw [← ht, List.getElem?_append_left (List.getElem?_eq_some_iff.mp last).1]
      exact last
    exact k F' rho' H' (.ref x) e1 ((List.prefix_append rho2 [x]).trans e2) R4 (.pure (.ref last2))
  · cases e
theorem me_mkR {X : Cx} {Tb : Tbs} {k n : Nat} {f C : Addr} {fd : FuncData} {ps : List Str} {x : Str} {p pos : Pos} {e : Expr} {es : List Expr} {mf : Fn} {ms : List (M D)} (hC : (x, C) ∈ Tb.c) (Mm : Mk X.K C f)
    (G : FnOk X.prog X.w X.K X.mg X.base CX0 k f fd ps (spM (n + 1) (kx X Tb) mf)) (hr : Room (k + 1) X.A) (hg : Gl X x) (hm : X.mg x = some (.ref C)) (hb : Binds X.K fd ps []) (hms : ms.length = n) (ha : PA X (e :: es) (Ta (kx X Tb) (E.args ms)))
    (hdb : (x == ("__debug__" : Str)) = false := by decide) (he : starEach (e :: es) X.env = (false, eval e X.env) :: starEach es X.env := by rfl) (hpl : (backTo pos (starEach es X.env)).any (·.1) = false := by rfl) :
    PE X (.Call (.Name x p) (e :: es) [] pos) (Te (kx X Tb) (E.mkR x mf ms)) :=
  pe_imp (pe_make (E := E0) Mm G hr hg hm hb .nil pass0 ha hdb he hpl) fun σ H Q h => mkR_go (Ee := E0) hC hms σ H Q h
end Mi
set_option Elab.async false
set_option linter.all false
set_option maxRecDepth 100000
set_option maxHeartbeats 1000000
namespace Mi
open PySem PySem.Spec PyProof.Rows L2
end Mi
set_option Elab.async false
set_option linter.all false
set_option maxRecDepth 100000
set_option maxHeartbeats 1000000
namespace Mi
open PySem PySem.Spec PyProof.Rows L2
end Mi
namespace L2.DX
open PySem PySem.Spec PyProof.Rows
end L2.DX
namespace Mi
open PySem PySem.Spec PyProof.Rows L2
end Mi
set_option Elab.async false
set_option linter.all false
set_option maxRecDepth 100000
set_option maxHeartbeats 1000000
namespace Mi
open PySem PySem.W PySem.Spec PyProof.Rows L2
end Mi
set_option Elab.async false
set_option linter.all false
set_option maxRecDepth 100000
set_option maxHeartbeats 1000000
namespace Mi
open PySem PySem.W PySem.Spec PyProof.Rows L2
end Mi
set_option Elab.async false
set_option linter.all false
set_option maxRecDepth 100000
set_option maxHeartbeats 1000000
namespace Mi
open PySem PySem.Spec PyProof.Rows L2
end Mi
set_option Elab.async false
set_option linter.all false
set_option maxRecDepth 100000
set_option maxHeartbeats 1000000
namespace Mi
open PySem PySem.Spec PyProof.Rows L2
end Mi
set_option Elab.async false
set_option linter.all false
set_option maxRecDepth 100000
set_option maxHeartbeats 1000000
namespace Mi
open PySem PySem.Spec PyProof.Rows L2
end Mi
set_option Elab.async false
set_option linter.all false
set_option maxRecDepth 100000
set_option maxHeartbeats 1000000
namespace PySem
open Sem (wp)
end PySem
namespace Mi
open PySem PySem.Spec PyProof.Rows L2
end Mi
set_option Elab.async false
set_option linter.all false
set_option maxRecDepth 100000
set_option maxHeartbeats 1000000
namespace Mi
open PySem PySem.W PySem.Spec PyProof.Rows L2
end Mi
set_option Elab.async false
set_option linter.all false
set_option maxRecDepth 100000
set_option maxHeartbeats 1000000
namespace Mi
open PySem PySem.Spec PyProof.Rows L2
end Mi
set_option Elab.async false
set_option linter.all false
set_option maxRecDepth 100000
set_option maxHeartbeats 1000000
namespace Mi
open PySem PySem.W PySem.Spec PyProof.Rows L2
end Mi
set_option Elab.async false
set_option linter.all false
set_option maxRecDepth 100000
set_option maxHeartbeats 1000000
namespace Mi
open PySem PySem.Spec PyProof.Rows L2
end Mi
set_option Elab.async false
set_option linter.all false
set_option maxRecDepth 100000
set_option maxHeartbeats 1000000
namespace Mi
open PySem PySem.Spec PyProof.Rows L2
end Mi
set_option Elab.async false
set_option linter.all false
set_option maxRecDepth 100000
set_option maxHeartbeats 1000000
namespace Mi
open PySem PySem.Spec PyProof.Rows L2
mutual
def KAt (H : Hp) : NestedKey → V → Prop
  | .num i, v => v = .int i
  | .tup ks, v => ∃ b vs, v = .ref b ∧ H b = some (.tup vs) ∧ KAts H ks vs
  | .none, _ => False
  | .text _, _ => False
def KAts (H : Hp) : List NestedKey → List V → Prop
  | [], vs => vs = []
  | k :: ks, vs => ∃ v r, vs = v :: r ∧ KAt H k v ∧ KAts H ks r
end
mutual
theorem KAt.mono {H H' : Hp} (hk : ∀ b ys, H b = some (.tup ys) → H' b = some (.tup ys)) : ∀ (k : NestedKey) {v : V}, KAt H k v → KAt H' k v
  | .num i, v, e => by
    rw [KAt] at e ⊢
    exact e
  | .tup ks, v, e => by
    rw [KAt] at e ⊢
    obtain ⟨b, vs, rfl, hb, q⟩ := e
    exact ⟨b, vs, rfl, hk _ _ hb, KAts.mono hk ks q⟩
  | .none, v, e => by rw [KAt] at e; exact e.elim
  | .text _, v, e => by rw [KAt] at e; exact e.elim
theorem KAts.mono {H H' : Hp} (hk : ∀ b ys, H b = some (.tup ys) → H' b = some (.tup ys)) : ∀ (ks : List NestedKey) {vs : List V}, KAts H ks vs → KAts H' ks vs
  | [], vs, e => by
    rw [KAts] at e ⊢
    exact e
  | k :: ks, vs, e => by
    rw [KAts] at e ⊢
    obtain ⟨v, r2, rfl, h1, h2⟩ := e
    exact ⟨v, r2, rfl, KAt.mono hk k h1, KAts.mono hk ks h2⟩
end
end Mi
set_option Elab.async false
set_option linter.all false
set_option maxRecDepth 100000
set_option maxHeartbeats 1000000
namespace Mi
open PySem PySem.Spec PyProof.Rows L2
structure NE (κ : Type) where
  e : κ → D
  k : κ → NestedKey
  ok : ∀ a, nkD (e a) = some (k a)
  inj : ∀ a b, k a = k b → a = b
  d : Nat
  dep : ∀ a, (k a).depth ≤ d
section
variable {α β κ : Type}
def n2 (a : NE α) (b : NE β) : NE (α × β) where
  e := fun p => .tup [a.e p.1, b.e p.2]
  k := fun p => .tup [a.k p.1, b.k p.2]
  ok := fun p => by rw [nkD, nkDs, nkDs, nkDs, a.ok, b.ok]
  inj := fun p q h => by
    have h := NestedKey.tup.inj h
    rw [List.cons.injEq, List.cons.injEq] at h
    exact Prod.ext (a.inj _ _ h.1) (b.inj _ _ h.2.1)
  d := max a.d b.d + 1
  dep := fun p => by
    have h1 := a.dep p.1
    have h2 := b.dep p.2
    simp only [NestedKey.depth, NestedKey.depthAll]
    omega
theorem NE.any [DecidableEq κ] (Y : NE κ) (k0 : κ) : ∀ xs : List κ, ((xs.map Y.e).any fun d => decide (nkD d = some (Y.k k0))) = xs.any fun j => decide (j = k0)
  | [] => rfl
  | x :: xs => by
    rw [List.map_cons, List.any_cons, List.any_cons, NE.any Y k0 xs, Y.ok x]
    have e : decide (some (Y.k x) = some (Y.k k0)) = decide (x = k0) := by
      by_cases c : x = k0
      · rw [c, decide_eq_true rfl, decide_eq_true rfl]
      · rw [decide_eq_false c, decide_eq_false fun e => c (Y.inj _ _ (Option.some.inj e))]
    rw [e]
variable [DecidableEq κ] {a b m : M D} {z z1 z2 : Z} {s : List Sl} {h : List D} {rest : C}
end
end Mi
set_option Elab.async false
set_option linter.all false
set_option maxRecDepth 100000
set_option maxHeartbeats 1000000
namespace Mi
open PySem PySem.Spec PyProof.Rows L2
section
variable {α β : Type}
theorem ev_intB {a : M D} {z z1 : Z} {k : Bool} (h : a z = some (.bl k, z1)) : E.blt F.int1 [a] z = some (.int (if k then 1 else 0), z1) := ev_blt1 h rfl
end
end Mi
set_option Elab.async false
set_option linter.all false
set_option maxRecDepth 100000
set_option maxHeartbeats 1000000
namespace Mi
open PySem PySem.Spec PyProof.Rows L2
end Mi
set_option Elab.async false
set_option linter.all false
set_option maxRecDepth 100000
set_option maxHeartbeats 1000000
namespace Mi
open PySem PySem.Spec PyProof.Rows L2
section
variable {X : Cx}
theorem ip_mulW : PIp X .Mult (fun x y H Q => ∃ i j, x = V.int i ∧ y = V.int j ∧ CMulW i j ∧ Q (.int (i * j)) H) := by
  intro pins s σ H x y v u Q I r1 r2 h
  obtain ⟨i, j, e1, e2, c, q⟩ := h
  subst e1; subst e2
  obtain ⟨t, rfl⟩ := r1
  obtain ⟨t', rfl⟩ := r2
  exact imul_int ⟨.int _, H, I.tok _, ⟨_, rfl⟩, q⟩ c.ok
open Classical in
theorem i_mul : IpM X .Mult O.mul := by
  refine ⟨_, ip_mulW, ?_⟩
  intro Tb B F rho om z σ H x y xv yv d R rx ry e Q k
  obtain ⟨i, j, rfl, rfl, rfl, rfl, e⟩ := two_ints (g := fun i j => if smI i ∧ smI j then some (.int (i * j)) else none) (fun x y z => by cases x <;> cases y <;> rfl) (.pure rx : Rv (kx X Tb) F rho om x xv) ry e
  split at e
  · rename_i c
    cases e
    exact ⟨i, j, rfl, rfl, wide_mul c.1 c.2 bigN_pos bigN_pos (by decide), k _ (.int _)⟩
  · cases e
end
theorem mulO_hg {i j k : Int} {z : Z} (h : Pl.mul i j = some k) : O.mul (.int i) (.int j) z = some (.int k) := by
  unfold Pl.mul at h
  split at h
  · rename_i c
    cases h
    exact if_pos c
  · cases h
end Mi
set_option Elab.async false
set_option linter.all false
set_option maxRecDepth 100000
namespace W
open PySem L2 Mi
noncomputable section
theorem sc_law_state : FnScope ["_law_script", "_law_seed", "_law_cell"] ["_law_script"] (defScope s_law_state) := ⟨rfl, rfl, rfl, by decide +kernel, rfl, by decide +kernel, by decide +kernel⟩
theorem sc_law_draw : FnScope ["_law_state_here", "_law_many", "_law_cells", "_law_value", "_law_mixed"] ["_law_state_here", "_law_many"] (defScope s_law_draw) := ⟨rfl, rfl, rfl, by decide +kernel, rfl, by decide +kernel, by decide +kernel⟩
theorem sc_law_side : FnScope ["_law_state_here", "_law_rect", "_law_side_here", "_law_used", "_law_x0", "_law_z0", "_law_x1", "_law_z1", "_law_low", "_law_high", "_law_a", "_law_b"] ["_law_state_here", "_law_rect", "_law_side_here", "_law_used"] (defScope s_law_side) := ⟨rfl, rfl, rfl, by decide +kernel, rfl, by decide +kernel, by decide +kernel⟩
theorem sc_law_pick : FnScope ["_law_state_here", "_law_row"] ["_law_state_here", "_law_row"] (defScope s_law_pick) := ⟨rfl, rfl, rfl, by decide +kernel, rfl, by decide +kernel, by decide +kernel⟩
theorem sc_law_point : FnScope ["_law_state_here", "_law_rect", "_law_ends", "_law_x0", "_law_z0", "_law_x1", "_law_z1", "_law_kind", "_law_x", "_law_z"] ["_law_state_here", "_law_rect", "_law_ends"] (defScope s_law_point) := ⟨rfl, rfl, rfl, by decide +kernel, rfl, by decide +kernel, by decide +kernel⟩
theorem sc_law_next : FnScope ["_law_state_here", "_law_rect", "_law_side_here", "_law_a", "_law_b", "_law_x0", "_law_z0", "_law_x1", "_law_z1", "_law_low", "_law_high", "_law_deep"] ["_law_state_here", "_law_rect", "_law_side_here", "_law_a", "_law_b"] (defScope s_law_next) := ⟨rfl, rfl, rfl, by decide +kernel, rfl, by decide +kernel, by decide +kernel⟩
theorem sc_law_corridor : FnScope ["_law_state_here", "_law_most", "_law_rect", "_law_first", "_law_gates", "_law_used", "_law_turn", "_law_k", "_law_side_here", "_law_found", "_law_ends"] ["_law_state_here", "_law_most"] (defScope s_law_corridor) := ⟨rfl, rfl, rfl, by decide +kernel, rfl, by decide +kernel, by decide +kernel⟩
theorem sc_Funnel___init__ : FnScope ["self", "apex"] ["self", "apex"] (defScope s_Funnel___init__) := ⟨rfl, rfl, rfl, by decide +kernel, rfl, by decide +kernel, by decide +kernel⟩
theorem sc_cross : FnScope ["a", "b", "c"] ["a", "b", "c"] (defScope s_cross) := ⟨rfl, rfl, rfl, by decide +kernel, rfl, by decide +kernel, by decide +kernel⟩
theorem sc_Funnel_misses : FnScope ["self", "left", "right"] ["self", "left", "right"] (defScope s_Funnel_misses) := ⟨rfl, rfl, rfl, by decide +kernel, rfl, by decide +kernel, by decide +kernel⟩
theorem sc_Funnel_narrow : FnScope ["self", "ends", "at"] ["self", "ends", "at"] (defScope s_Funnel_narrow) := ⟨rfl, rfl, rfl, by decide +kernel, rfl, by decide +kernel, by decide +kernel⟩
theorem sc_distance : FnScope ["a", "b"] ["a", "b"] (defScope s_distance) := ⟨rfl, rfl, rfl, by decide +kernel, rfl, by decide +kernel, by decide +kernel⟩
theorem sc_nearer : FnScope ["ends", "point"] ["ends", "point"] (defScope s_nearer) := ⟨rfl, rfl, rfl, by decide +kernel, rfl, by decide +kernel, by decide +kernel⟩
theorem sc_on_gate : FnScope ["ends", "point"] ["ends", "point"] (defScope s_on_gate) := ⟨rfl, rfl, rfl, by decide +kernel, rfl, by decide +kernel, by decide +kernel⟩
theorem sc_next_bend : FnScope ["apex", "gates", "first", "end", "funnel", "at", "ends", "near", "bend"] ["apex", "gates", "first", "end"] (defScope s_next_bend) := ⟨rfl, rfl, rfl, by decide +kernel, rfl, by decide +kernel, by decide +kernel⟩
theorem sc_is_straight : FnScope ["a", "b", "c"] ["a", "b", "c"] (defScope s_is_straight) := ⟨rfl, rfl, rfl, by decide +kernel, rfl, by decide +kernel, by decide +kernel⟩
theorem sc_without_straight : FnScope ["points", "bends", "kept", "left", "at"] ["points", "bends"] (defScope s_without_straight) := ⟨rfl, rfl, rfl, by decide +kernel, rfl, by decide +kernel, by decide +kernel⟩
theorem sc_taut : FnScope ["start", "gates", "end", "points", "bends", "bend"] ["start", "gates", "end"] (defScope s_taut) := ⟨rfl, rfl, rfl, by decide +kernel, rfl, by decide +kernel, by decide +kernel⟩
theorem sc_law_on : FnScope ["_law_ends", "_law_scale", "_law_a", "_law_b", "_law_c", "_law_d", "_law_many", "_law_steps", "_law_k"] ["_law_ends", "_law_scale"] (defScope s_law_on) := ⟨rfl, rfl, rfl, by decide +kernel, rfl, by decide +kernel, by decide +kernel⟩
theorem sc_law_strings : FnScope ["_law_state_here", "_law_start", "_law_gates", "_law_end", "_law_rows", "_law_ends", "_law_points", "_law_x", "_law_z", "_law_more", "_law_row", "_law_point_here"] ["_law_state_here", "_law_start", "_law_gates", "_law_end"] (defScope s_law_strings) := ⟨rfl, rfl, rfl, by decide +kernel, rfl, by decide +kernel, by decide +kernel⟩
theorem sc_law_root : FnScope ["_law_number", "_law_low", "_law_high", "_law_middle"] ["_law_number"] (defScope s_law_root) := ⟨rfl, rfl, rfl, by decide +kernel, rfl, by decide +kernel, by decide +kernel⟩
theorem sc_law_length : FnScope ["_law_points", "_law_scale", "_law_low", "_law_exact", "_law_k", "_law_a", "_law_b", "_law_part"] ["_law_points", "_law_scale"] (defScope s_law_length) := ⟨rfl, rfl, rfl, by decide +kernel, rfl, by decide +kernel, by decide +kernel⟩
theorem sc_root : FnScope ["number", "low", "high", "middle"] ["number"] (defScope s_root) := ⟨rfl, rfl, rfl, by decide +kernel, rfl, by decide +kernel, by decide +kernel⟩
theorem sc_length_bounds : FnScope ["points", "scale", "low", "high", "at", "square", "part"] ["points", "scale"] (defScope s_length_bounds) := ⟨rfl, rfl, rfl, by decide +kernel, rfl, by decide +kernel, by decide +kernel⟩
theorem sc_law : FnScope ["_law_script", "_law_state_here", "_law_start", "_law_gates", "_law_end", "_law_points", "_law_bends", "_law_scale", "_law_low", "_law_row", "_law_told", "_law_due", "_law_parts", "_law_k", "_law_up", "_law_part"] ["_law_script"] (defScope s_law) := ⟨rfl, rfl, rfl, by decide +kernel, rfl, by decide +kernel, by decide +kernel⟩
def lp_law_state1 : C := (C.set 1 (E.op O.mod (E.blt F.int1 [(E.op O.add (E.op O.mul (E.var 1) (E.c (.int 31))) (E.var 2))]) (E.c (.int 1000003))))
@[reducible] def st_law_state_3 : C := (C.ret (E.shr (N.disp [(E.shr (N.comp (I.seqC (E.var 0)) (G.nm 2) [2] (ret true) (E.blt F.abs [(E.var 2)]))), (E.op O.add (E.var 1) (E.c (.int 1)))])))
@[reducible] def st_law_state_2 : C := (C.for_ (I.seq (E.var 0)) (G.nm 2) lp_law_state1)
def b_law_state : C := (C.seq (C.set 1 (E.c (.int 7))) (C.seq st_law_state_2 st_law_state_3))
def m_law_state : Fn := fn 3 1 b_law_state
def lp_law_draw1 : C := (C.drop (E.chg U.popAt (E.var 2) [(E.c (.int 0))]))
@[reducible] def st_law_draw_6 : C := (C.ret (E.op O.mod (E.blt F.int1 [(E.op O.div (E.var 4) (E.c (.int 64)))]) (E.var 1)))
@[reducible] def st_law_draw_5 : C := (C.setIx (E.var 0) (E.c (.int 1)) (E.var 4))
@[reducible] def st_law_draw_4 : C := (C.set 4 (E.op O.mod (E.blt F.int1 [(E.op O.add (E.op O.mul (E.op O.ix (E.var 0) (E.c (.int 1))) (E.c (.int 48271))) (E.c (.int 12345)))]) (E.c (.int 2147483647))))
@[reducible] def st_law_draw_3 : C := (C.ite (T.val (E.op O.gt (E.blt F.len [(E.var 2)]) (E.c (.int 0)))) (C.seq (C.set 3 (E.op O.ix (E.var 2) (E.c (.int 0)))) (C.seq (C.setIx (E.var 2) (E.c (.int 0)) (E.op O.div (E.var 3) (E.var 1))) (C.ret (E.op O.mod (E.blt F.int1 [(E.var 3)]) (E.var 1))))) C.skip)
@[reducible] def st_law_draw_2 : C := (C.whl (T.and (T.val (E.op O.gt (E.blt F.len [(E.var 2)]) (E.c (.int 0)))) (T.val (E.op O.eq (E.op O.ix (E.var 2) (E.c (.int 0))) (E.c (.int 0))))) lp_law_draw1)
@[reducible] def st_law_draw_1 : C := (C.set 2 (E.op O.ix (E.var 0) (E.c (.int 0))))
def b_law_draw : C := (C.seq st_law_draw_1 (C.seq st_law_draw_2 (C.seq st_law_draw_3 (C.seq st_law_draw_4 (C.seq st_law_draw_5 st_law_draw_6)))))
def m_law_draw : Fn := fn 5 2 b_law_draw
@[reducible] def st_law_side_6 : C := (C.ret (E.tup [(E.var 10), (E.var 11)]))
@[reducible] def st_law_side_5 : C := (C.ite (T.and (T.val (E.notN (E.var 3))) (T.and (T.val (E.op O.eq (E.op O.ix (E.var 3) (E.c (.int 0))) (E.var 2))) (T.and (T.val (E.op O.lt (E.var 10) (E.op O.ix (E.var 3) (E.c (.int 2))))) (T.val (E.op O.lt (E.op O.ix (E.var 3) (E.c (.int 1))) (E.var 11)))))) (C.ret (E.c .non)) C.skip)
@[reducible] def st_law_side_4 : C := (C.set 11 (E.op O.add (E.op O.add (E.var 10) (E.c (.int 3))) (E.call m_law_draw [(E.var 0), (E.op O.sub (E.op O.sub (E.var 9) (E.var 10)) (E.c (.int 2)))])))
@[reducible] def st_law_side_3 : C := (C.set 10 (E.op O.add (E.var 8) (E.call m_law_draw [(E.var 0), (E.op O.sub (E.op O.sub (E.var 9) (E.var 8)) (E.c (.int 2)))])))
@[reducible] def st_law_side_2 : C := (C.asg (G.tp [(G.nm 8), (G.nm 9)]) (E.op O.ix (E.frz (N.disp [(E.tup [(E.var 5), (E.var 7)]), (E.tup [(E.var 4), (E.var 6)])])) (E.op O.mod (E.blt F.int1 [(E.var 2)]) (E.c (.int 2)))))
@[reducible] def st_law_side_1 : C := (C.asg (G.tp [(G.nm 4), (G.nm 5), (G.nm 6), (G.nm 7)]) (E.var 1))
def b_law_side : C := (C.seq st_law_side_1 (C.seq st_law_side_2 (C.seq st_law_side_3 (C.seq st_law_side_4 (C.seq st_law_side_5 st_law_side_6)))))
def m_law_side : Fn := fn 12 4 b_law_side
@[reducible] def st_law_pick_1 : C := (C.ret (E.op O.ix (E.var 1) (E.call m_law_draw [(E.var 0), (E.blt F.len [(E.var 1)])])))
def b_law_pick : C := st_law_pick_1
def m_law_pick : Fn := fn 2 2 b_law_pick
@[reducible] def st_law_point_7 : C := (C.ret (E.tup [(E.var 8), (E.var 9)]))
@[reducible] def st_law_point_6 : C := (C.ite (T.val (E.op O.lt (E.var 7) (E.c (.int 3)))) (C.ret (E.tup [(E.op O.add (E.var 3) (E.call m_law_draw [(E.var 0), (E.op O.add (E.op O.sub (E.var 5) (E.var 3)) (E.c (.int 1)))])), (E.op O.add (E.var 4) (E.call m_law_draw [(E.var 0), (E.op O.add (E.op O.sub (E.var 6) (E.var 4)) (E.c (.int 1)))]))])) C.skip)
@[reducible] def st_law_point_5 : C := (C.set 9 (E.call m_law_pick [(E.var 0), (E.frz (N.disp [(E.var 4), (E.var 6), (E.op O.add (E.var 4) (E.call m_law_draw [(E.var 0), (E.op O.add (E.op O.sub (E.var 6) (E.var 4)) (E.c (.int 1)))]))]))]))
@[reducible] def st_law_point_4 : C := (C.set 8 (E.call m_law_pick [(E.var 0), (E.frz (N.disp [(E.var 3), (E.var 5), (E.op O.add (E.var 3) (E.call m_law_draw [(E.var 0), (E.op O.add (E.op O.sub (E.var 5) (E.var 3)) (E.c (.int 1)))]))]))]))
@[reducible] def st_law_point_3 : C := (C.ite (T.and (T.val (E.op O.eq (E.var 7) (E.c (.int 0)))) (T.val (E.notN (E.var 2)))) (C.ret (E.call m_law_pick [(E.var 0), (E.var 2)])) C.skip)
@[reducible] def st_law_point_2 : C := (C.set 7 (E.call m_law_draw [(E.var 0), (E.c (.int 5))]))
@[reducible] def st_law_point_1 : C := (C.asg (G.tp [(G.nm 3), (G.nm 4), (G.nm 5), (G.nm 6)]) (E.var 1))
def b_law_point : C := (C.seq st_law_point_1 (C.seq st_law_point_2 (C.seq st_law_point_3 (C.seq st_law_point_4 (C.seq st_law_point_5 (C.seq st_law_point_6 st_law_point_7))))))
def m_law_point : Fn := fn 10 3 b_law_point
@[reducible] def st_law_next_8 : C := (C.ret (E.frz (N.disp [(E.tup [(E.tup [(E.op O.add (E.var 3) (E.c (.int 1))), (E.var 6)]), (E.tup [(E.op O.sub (E.var 4) (E.c (.int 1))), (E.var 6)])]), (E.tup [(E.var 9), (E.op O.sub (E.var 6) (E.var 11)), (E.var 10), (E.var 6)])])))
@[reducible] def st_law_next_7 : C := (C.ite (T.val (E.op O.eq (E.var 2) (E.c (.int 2)))) (C.ret (E.frz (N.disp [(E.tup [(E.tup [(E.var 5), (E.op O.sub (E.var 4) (E.c (.int 1)))]), (E.tup [(E.var 5), (E.op O.add (E.var 3) (E.c (.int 1)))])]), (E.tup [(E.op O.sub (E.var 5) (E.var 11)), (E.var 9), (E.var 5), (E.var 10)])]))) C.skip)
@[reducible] def st_law_next_6 : C := (C.ite (T.val (E.op O.eq (E.var 2) (E.c (.int 1)))) (C.ret (E.frz (N.disp [(E.tup [(E.tup [(E.op O.sub (E.var 4) (E.c (.int 1))), (E.var 8)]), (E.tup [(E.op O.add (E.var 3) (E.c (.int 1))), (E.var 8)])]), (E.tup [(E.var 9), (E.var 8), (E.var 10), (E.op O.add (E.var 8) (E.var 11))])]))) C.skip)
@[reducible] def st_law_next_5 : C := (C.ite (T.val (E.op O.eq (E.var 2) (E.c (.int 0)))) (C.ret (E.frz (N.disp [(E.tup [(E.tup [(E.var 7), (E.op O.add (E.var 3) (E.c (.int 1)))]), (E.tup [(E.var 7), (E.op O.sub (E.var 4) (E.c (.int 1)))])]), (E.tup [(E.var 7), (E.var 9), (E.op O.add (E.var 7) (E.var 11)), (E.var 10)])]))) C.skip)
@[reducible] def st_law_next_4 : C := (C.set 11 (E.op O.add (E.c (.int 3)) (E.call m_law_draw [(E.var 0), (E.c (.int 8))])))
@[reducible] def st_law_next_3 : C := (C.set 10 (E.op O.add (E.var 4) (E.call m_law_draw [(E.var 0), (E.c (.int 6))])))
@[reducible] def st_law_next_2 : C := (C.set 9 (E.op O.sub (E.var 3) (E.call m_law_draw [(E.var 0), (E.c (.int 6))])))
@[reducible] def st_law_next_1 : C := (C.asg (G.tp [(G.nm 5), (G.nm 6), (G.nm 7), (G.nm 8)]) (E.var 1))
def b_law_next : C := (C.seq st_law_next_1 (C.seq st_law_next_2 (C.seq st_law_next_3 (C.seq st_law_next_4 (C.seq st_law_next_5 (C.seq st_law_next_6 (C.seq st_law_next_7 st_law_next_8)))))))
def m_law_next : Fn := fn 12 5 b_law_next
def lp_law_corridor1 : C := (C.seq (C.set 8 (E.op O.mod (E.blt F.int1 [(E.op O.add (E.op O.add (E.var 6) (E.call m_law_pick [(E.var 0), (E.frz (N.disp [(E.c (.int 0)), (E.c (.int 0)), (E.c (.int 1)), (E.c (.int 1)), (E.c (.int 3)), (E.c (.int 2))]))])) (E.op O.mul (E.c (.int 3)) (E.call m_law_draw [(E.var 0), (E.c (.int 2))])))]) (E.c (.int 4)))) (C.seq (C.set 9 (E.call m_law_side [(E.var 0), (E.var 2), (E.var 8), (E.var 5)])) (C.ite (T.val (E.notN (E.var 9))) (C.seq (C.asg (G.tl [(G.nm 10), (G.nm 2)]) (E.call m_law_next [(E.var 0), (E.var 2), (E.var 8), (E.op O.ix (E.var 9) (E.c (.int 0))), (E.op O.ix (E.var 9) (E.c (.int 1)))])) (C.seq (C.drop (E.chg U.append (E.var 4) [(E.var 10)])) (C.seq (C.set 5 (E.tup [(E.op O.mod (E.blt F.int1 [(E.op O.add (E.var 8) (E.c (.int 2)))]) (E.c (.int 4))), (E.op O.ix (E.var 9) (E.c (.int 0))), (E.op O.ix (E.var 9) (E.c (.int 1)))])) (C.set 6 (E.var 8))))) C.skip)))
@[reducible] def st_law_corridor_8 : C := (C.ret (E.frz (N.disp [(E.call m_law_point [(E.var 0), (E.var 3), (E.op O.ix (E.var 4) (E.c (.int 0)))]), (E.var 4), (E.call m_law_point [(E.var 0), (E.var 2), (E.op O.ix (E.var 4) (E.op O.sub (E.blt F.len [(E.var 4)]) (E.c (.int 1))))])])))
@[reducible] def st_law_corridor_7 : C := (C.ite (T.val (E.op O.eq (E.blt F.len [(E.var 4)]) (E.c (.int 0)))) (C.ret (E.frz (N.disp [(E.call m_law_point [(E.var 0), (E.var 3), (E.c .non)]), (E.var 4), (E.call m_law_point [(E.var 0), (E.var 3), (E.c .non)])]))) C.skip)
@[reducible] def st_law_corridor_6 : C := (C.for_ (I.rng1 (E.call m_law_draw [(E.var 0), (E.op O.add (E.var 1) (E.c (.int 1)))])) (G.nm 7) lp_law_corridor1)
@[reducible] def st_law_corridor_5 : C := (C.set 6 (E.call m_law_draw [(E.var 0), (E.c (.int 4))]))
@[reducible] def st_law_corridor_1 : C := (C.set 2 (E.tup [(E.c (.int 0)), (E.c (.int 0)), (E.op O.add (E.c (.int 4)) (E.call m_law_draw [(E.var 0), (E.c (.int 9))])), (E.op O.add (E.c (.int 4)) (E.call m_law_draw [(E.var 0), (E.c (.int 9))]))]))
def b_law_corridor : C := (C.seq st_law_corridor_1 (C.seq (C.set 3 (E.var 2)) (C.seq (C.own 4 (N.disp [])) (C.seq (C.set 5 (E.c .non)) (C.seq st_law_corridor_5 (C.seq st_law_corridor_6 (C.seq (C.frz 4) (C.seq st_law_corridor_7 st_law_corridor_8))))))))
def m_law_corridor : Fn := fn 11 2 b_law_corridor
@[reducible] def st_Funnel___init___3 : C := (C.fsetC "Funnel" "right" (E.var 0) (E.c .non))
@[reducible] def st_Funnel___init___2 : C := (C.fsetC "Funnel" "left" (E.var 0) (E.c .non))
@[reducible] def st_Funnel___init___1 : C := (C.fsetC "Funnel" "apex" (E.var 0) (E.var 1))
def b_Funnel___init__ : C := (C.seq st_Funnel___init___1 (C.seq st_Funnel___init___2 st_Funnel___init___3))
def m_Funnel___init__ : Fn := fn 2 2 b_Funnel___init__
@[reducible] def st_cross_1 : C := (C.ret (E.op O.sub (E.op O.mul (E.op O.sub (E.op O.ix (E.var 1) (E.c (.int 1))) (E.op O.ix (E.var 0) (E.c (.int 1)))) (E.op O.sub (E.op O.ix (E.var 2) (E.c (.int 0))) (E.op O.ix (E.var 0) (E.c (.int 0))))) (E.op O.mul (E.op O.sub (E.op O.ix (E.var 1) (E.c (.int 0))) (E.op O.ix (E.var 0) (E.c (.int 0)))) (E.op O.sub (E.op O.ix (E.var 2) (E.c (.int 1))) (E.op O.ix (E.var 0) (E.c (.int 1)))))))
def b_cross : C := st_cross_1
def m_cross : Fn := fn 3 3 b_cross
@[reducible] def st_Funnel_misses_3 : C := (C.ite (T.val (E.op O.lt (E.call m_cross [(E.fldC "Funnel" "apex" (E.var 0)), (E.op O.ix (E.fldC "Funnel" "right" (E.var 0)) (E.c (.int 0))), (E.var 1)]) (E.c (.int 0)))) (C.ret (E.fldC "Funnel" "right" (E.var 0))) C.skip)
@[reducible] def st_Funnel_misses_2 : C := (C.ite (T.val (E.op O.gt (E.call m_cross [(E.fldC "Funnel" "apex" (E.var 0)), (E.op O.ix (E.fldC "Funnel" "left" (E.var 0)) (E.c (.int 0))), (E.var 2)]) (E.c (.int 0)))) (C.ret (E.fldC "Funnel" "left" (E.var 0))) C.skip)
@[reducible] def st_Funnel_misses_1 : C := (C.ite (T.val (E.isN (E.fldC "Funnel" "left" (E.var 0)))) (C.ret (E.c .non)) C.skip)
def b_Funnel_misses : C := (C.seq st_Funnel_misses_1 (C.seq st_Funnel_misses_2 (C.seq st_Funnel_misses_3 (C.ret (E.c .non)))))
def m_Funnel_misses : Fn := fn 3 3 b_Funnel_misses
@[reducible] def st_Funnel_narrow_2 : C := (C.ite (T.or (T.val (E.isN (E.fldC "Funnel" "right" (E.var 0)))) (T.val (E.op O.ge (E.call m_cross [(E.fldC "Funnel" "apex" (E.var 0)), (E.op O.ix (E.fldC "Funnel" "right" (E.var 0)) (E.c (.int 0))), (E.op O.ix (E.var 1) (E.c (.int 1)))]) (E.c (.int 0))))) (C.fsetC "Funnel" "right" (E.var 0) (E.tup [(E.op O.ix (E.var 1) (E.c (.int 1))), (E.var 2)])) C.skip)
@[reducible] def st_Funnel_narrow_1 : C := (C.ite (T.or (T.val (E.isN (E.fldC "Funnel" "left" (E.var 0)))) (T.val (E.op O.le (E.call m_cross [(E.fldC "Funnel" "apex" (E.var 0)), (E.op O.ix (E.fldC "Funnel" "left" (E.var 0)) (E.c (.int 0))), (E.op O.ix (E.var 1) (E.c (.int 0)))]) (E.c (.int 0))))) (C.fsetC "Funnel" "left" (E.var 0) (E.tup [(E.op O.ix (E.var 1) (E.c (.int 0))), (E.var 2)])) C.skip)
def b_Funnel_narrow : C := (C.seq st_Funnel_narrow_1 st_Funnel_narrow_2)
def m_Funnel_narrow : Fn := fn 3 3 b_Funnel_narrow
@[reducible] def st_distance_1 : C := (C.ret (E.op O.add (E.op O.mul (E.op O.sub (E.op O.ix (E.var 0) (E.c (.int 0))) (E.op O.ix (E.var 1) (E.c (.int 0)))) (E.op O.sub (E.op O.ix (E.var 0) (E.c (.int 0))) (E.op O.ix (E.var 1) (E.c (.int 0))))) (E.op O.mul (E.op O.sub (E.op O.ix (E.var 0) (E.c (.int 1))) (E.op O.ix (E.var 1) (E.c (.int 1)))) (E.op O.sub (E.op O.ix (E.var 0) (E.c (.int 1))) (E.op O.ix (E.var 1) (E.c (.int 1)))))))
def b_distance : C := st_distance_1
def m_distance : Fn := fn 2 2 b_distance
@[reducible] def st_nearer_2 : C := (C.ret (E.op O.ix (E.var 0) (E.c (.int 1))))
@[reducible] def st_nearer_1 : C := (C.ite (T.val (E.op O.le (E.call m_distance [(E.op O.ix (E.var 0) (E.c (.int 0))), (E.var 1)]) (E.call m_distance [(E.op O.ix (E.var 0) (E.c (.int 1))), (E.var 1)]))) (C.ret (E.op O.ix (E.var 0) (E.c (.int 0)))) C.skip)
def b_nearer : C := (C.seq st_nearer_1 st_nearer_2)
def m_nearer : Fn := fn 2 2 b_nearer
@[reducible] def st_on_gate_2 : C := (C.ret (E.op O.le (E.op O.add (E.call m_distance [(E.op O.ix (E.var 0) (E.c (.int 0))), (E.var 1)]) (E.call m_distance [(E.var 1), (E.op O.ix (E.var 0) (E.c (.int 1)))])) (E.call m_distance [(E.op O.ix (E.var 0) (E.c (.int 0))), (E.op O.ix (E.var 0) (E.c (.int 1)))])))
@[reducible] def st_on_gate_1 : C := (C.ite (T.val (E.op O.ne (E.call m_cross [(E.op O.ix (E.var 0) (E.c (.int 0))), (E.op O.ix (E.var 0) (E.c (.int 1))), (E.var 1)]) (E.c (.int 0)))) (C.ret (E.c (.bl false))) C.skip)
def b_on_gate : C := (C.seq st_on_gate_1 st_on_gate_2)
def m_on_gate : Fn := fn 2 2 b_on_gate
def lp_next_bend1 : C := (C.seq (C.set 6 (E.op O.ix (E.var 1) (E.var 5))) (C.seq (C.ite (T.val (E.op O.eq (E.call m_cross [(E.op O.ix (E.var 6) (E.c (.int 0))), (E.op O.ix (E.var 6) (E.c (.int 1))), (E.var 0)]) (E.c (.int 0)))) (C.seq (C.ite (T.and (T.val (E.isN (E.fldC "Funnel" "left" (E.var 4)))) (T.tru (E.call m_on_gate [(E.var 6), (E.var 0)]))) C.cnt C.skip) (C.seq (C.set 7 (E.call m_nearer [(E.var 6), (E.var 0)])) (C.seq (C.set 8 (E.meth "Funnel" "misses" m_Funnel_misses (E.var 4) [(E.var 7), (E.var 7)])) (C.ret (E.ite (T.val (E.isN (E.var 8))) (E.tup [(E.var 7), (E.var 5)]) (E.var 8)))))) C.skip) (C.seq (C.set 8 (E.meth "Funnel" "misses" m_Funnel_misses (E.var 4) [(E.op O.ix (E.var 6) (E.c (.int 0))), (E.op O.ix (E.var 6) (E.c (.int 1)))])) (C.seq (C.ite (T.val (E.notN (E.var 8))) (C.ret (E.var 8)) C.skip) (C.drop (E.meth "Funnel" "narrow" m_Funnel_narrow (E.var 4) [(E.var 6), (E.var 5)]))))))
@[reducible] def st_next_bend_3 : C := (C.ret (E.meth "Funnel" "misses" m_Funnel_misses (E.var 4) [(E.var 3), (E.var 3)]))
@[reducible] def st_next_bend_2 : C := (C.for_ (I.rng2 (E.var 2) (E.blt F.len [(E.var 1)])) (G.nm 5) lp_next_bend1)
@[reducible] def st_next_bend_1 : C := (C.set 4 (E.mkR "Funnel" m_Funnel___init__ [(E.var 0)]))
def b_next_bend : C := (C.seq st_next_bend_1 (C.seq st_next_bend_2 st_next_bend_3))
def m0_next_bend : Fn := fn 9 4 b_next_bend
def m_next_bend : Fn := gcF m0_next_bend
@[reducible] def st_is_straight_2 : C := (C.ret (E.op O.gt (E.op O.add (E.op O.mul (E.op O.sub (E.op O.ix (E.var 1) (E.c (.int 0))) (E.op O.ix (E.var 0) (E.c (.int 0)))) (E.op O.sub (E.op O.ix (E.var 2) (E.c (.int 0))) (E.op O.ix (E.var 1) (E.c (.int 0))))) (E.op O.mul (E.op O.sub (E.op O.ix (E.var 1) (E.c (.int 1))) (E.op O.ix (E.var 0) (E.c (.int 1)))) (E.op O.sub (E.op O.ix (E.var 2) (E.c (.int 1))) (E.op O.ix (E.var 1) (E.c (.int 1)))))) (E.c (.int 0))))
@[reducible] def st_is_straight_1 : C := (C.ite (T.val (E.op O.ne (E.call m_cross [(E.var 0), (E.var 1), (E.var 2)]) (E.c (.int 0)))) (C.ret (E.c (.bl false))) C.skip)
def b_is_straight : C := (C.seq st_is_straight_1 st_is_straight_2)
def m_is_straight : Fn := fn 3 3 b_is_straight
def lp_without_straight1 : C := (C.ite (T.not (T.tru (E.call m_is_straight [(E.op O.ix (E.var 2) (E.un O.neg (E.c (.int 1)))), (E.op O.ix (E.var 0) (E.var 4)), (E.op O.ix (E.var 0) (E.op O.add (E.var 4) (E.c (.int 1))))]))) (C.seq (C.drop (E.chg U.append (E.var 2) [(E.op O.ix (E.var 0) (E.var 4))])) (C.drop (E.chg U.append (E.var 3) [(E.op O.ix (E.var 1) (E.op O.sub (E.var 4) (E.c (.int 1))))]))) C.skip)
@[reducible] def st_without_straight_5 : C := (C.ret (E.tup [(E.var 2), (E.var 3)]))
@[reducible] def st_without_straight_4 : C := (C.ite (T.val (E.op O.gt (E.blt F.len [(E.var 0)]) (E.c (.int 1)))) (C.drop (E.chg U.append (E.var 2) [(E.op O.ix (E.var 0) (E.un O.neg (E.c (.int 1))))])) C.skip)
@[reducible] def st_without_straight_3 : C := (C.for_ (I.rng2 (E.c (.int 1)) (E.op O.sub (E.blt F.len [(E.var 0)]) (E.c (.int 1)))) (G.nm 4) lp_without_straight1)
@[reducible] def st_without_straight_1 : C := (C.own 2 (N.disp [(E.op O.ix (E.var 0) (E.c (.int 0)))]))
def b_without_straight : C := (C.seq st_without_straight_1 (C.seq (C.own 3 (N.disp [])) (C.seq st_without_straight_3 (C.seq st_without_straight_4 (C.seq (C.frz 3) (C.seq (C.frz 2) st_without_straight_5))))))
def m_without_straight : Fn := fn 5 2 b_without_straight
def lp_taut1 : C := (C.seq (C.drop (E.chg U.append (E.var 3) [(E.op O.ix (E.var 5) (E.c (.int 0)))])) (C.seq (C.drop (E.chg U.append (E.var 4) [(E.op O.ix (E.var 5) (E.c (.int 1)))])) (C.set 5 (E.call m_next_bend [(E.op O.ix (E.var 5) (E.c (.int 0))), (E.var 1), (E.op O.add (E.op O.ix (E.var 5) (E.c (.int 1))) (E.c (.int 1))), (E.var 2)]))))
@[reducible] def st_taut_6 : C := (C.ret (E.call m_without_straight [(E.var 3), (E.var 4)]))
@[reducible] def st_taut_5 : C := (C.ite (T.val (E.op O.ne (E.op O.ix (E.var 3) (E.un O.neg (E.c (.int 1)))) (E.var 2))) (C.drop (E.chg U.append (E.var 3) [(E.var 2)])) C.skip)
@[reducible] def st_taut_4 : C := (C.whl (T.val (E.notN (E.var 5))) lp_taut1)
@[reducible] def st_taut_3 : C := (C.set 5 (E.call m_next_bend [(E.var 0), (E.var 1), (E.c (.int 0)), (E.var 2)]))
def b_taut : C := (C.seq (C.own 3 (N.disp [(E.var 0)])) (C.seq (C.own 4 (N.disp [])) (C.seq st_taut_3 (C.seq st_taut_4 (C.seq st_taut_5 (C.seq (C.frz 3) (C.seq (C.frz 4) st_taut_6)))))))
def m_taut : Fn := fn 6 3 b_taut
def cp_law_on1 : M (List D) := (N.comp (I.rng1 (E.op O.add (E.op O.mul (E.var 6) (E.var 1)) (E.c (.int 1)))) (G.nm 8) [8] (ret true) (E.tup [(E.op O.add (E.op O.mul (E.var 1) (E.var 2)) (E.op O.mul (E.var 8) (E.op O.ix (E.var 7) (E.c (.int 0))))), (E.op O.add (E.op O.mul (E.var 1) (E.var 3)) (E.op O.mul (E.var 8) (E.op O.ix (E.var 7) (E.c (.int 1)))))]))
@[reducible] def st_law_on_3 : C := (C.set 7 (E.frz (N.disp [(E.op O.mul (E.blt F.int1 [(E.op O.ne (E.var 2) (E.var 4))]) (E.op O.sub (E.c (.int 1)) (E.op O.mul (E.c (.int 2)) (E.blt F.int1 [(E.op O.lt (E.var 4) (E.var 2))])))), (E.op O.mul (E.blt F.int1 [(E.op O.ne (E.var 3) (E.var 5))]) (E.op O.sub (E.c (.int 1)) (E.op O.mul (E.c (.int 2)) (E.blt F.int1 [(E.op O.lt (E.var 5) (E.var 3))]))))])))
@[reducible] def st_law_on_2 : C := (C.set 6 (E.blt F.max2 [(E.blt F.abs [(E.op O.sub (E.var 4) (E.var 2))]), (E.blt F.abs [(E.op O.sub (E.var 5) (E.var 3))])]))
@[reducible] def st_law_on_1 : C := (C.asg (G.tp [(G.tp [(G.nm 2), (G.nm 3)]), (G.tp [(G.nm 4), (G.nm 5)])]) (E.var 0))
def b_law_on : C := (C.seq st_law_on_1 (C.seq st_law_on_2 (C.seq st_law_on_3 (C.ret (E.frz cp_law_on1)))))
def m_law_on : Fn := fn 9 2 b_law_on
def cp_law_strings1 : M (List D) := (N.comp (I.seqC (E.var 6)) (G.tp [(G.nm 7), (G.nm 8)]) [7, 8] (ret true) (E.tup [(E.op O.mul (E.c (.int 2)) (E.var 7)), (E.op O.mul (E.c (.int 2)) (E.var 8))]))
def cp_law_strings2 : M (List D) := (N.comp (I.seqC (E.var 6)) (G.nm 11) [11] (ret true) (E.frz (N.cat (E.var 10) (E.frz (N.disp [(E.var 11)])))))
def lp_law_strings3 : C := (C.set 9 (E.frz (N.cat (E.var 9) (E.frz cp_law_strings2))))
def lp_law_strings4 : C := (C.seq (C.set 6 (E.call m_law_on [(E.var 5), (E.c (.int 2))])) (C.seq (C.ite (T.val (E.op O.gt (E.op O.mul (E.blt F.len [(E.var 4)]) (E.blt F.len [(E.var 6)])) (E.c (.int 300)))) (C.seq (C.set 6 (E.frz (N.disp [(E.op O.ix (E.var 5) (E.c (.int 0))), (E.op O.ix (E.var 5) (E.c (.int 1)))]))) (C.set 6 (E.frz (N.cat (E.frz cp_law_strings1) (E.frz (N.disp [(E.call m_law_pick [(E.var 0), (E.call m_law_on [(E.var 5), (E.c (.int 2))])])])))))) C.skip) (C.seq (C.set 9 (E.frz (N.disp []))) (C.seq (C.for_ (I.seq (E.var 4)) (G.nm 10) lp_law_strings3) (C.set 4 (E.frz (N.slice (E.var 9) none (some (E.c (.int 600))))))))))
def cp_law_strings5 : M (List D) := (N.comp (I.seqC (E.var 4)) (G.nm 10) [10] (ret true) (E.frz (N.cat (E.var 10) (E.frz (N.disp [(E.tup [(E.op O.mul (E.c (.int 2)) (E.op O.ix (E.var 3) (E.c (.int 0)))), (E.op O.mul (E.c (.int 2)) (E.op O.ix (E.var 3) (E.c (.int 1))))])])))))
@[reducible] def st_law_strings_3 : C := (C.ret (E.frz cp_law_strings5))
@[reducible] def st_law_strings_2 : C := (C.for_ (I.seq (E.var 2)) (G.nm 5) lp_law_strings4)
@[reducible] def st_law_strings_1 : C := (C.set 4 (E.frz (N.disp [(E.frz (N.disp [(E.tup [(E.op O.mul (E.c (.int 2)) (E.op O.ix (E.var 1) (E.c (.int 0)))), (E.op O.mul (E.c (.int 2)) (E.op O.ix (E.var 1) (E.c (.int 1))))])]))])))
def b_law_strings : C := (C.seq st_law_strings_1 (C.seq st_law_strings_2 st_law_strings_3))
def m_law_strings : Fn := fn 12 4 b_law_strings
def lp_law_root1 : C := (C.seq (C.set 3 (E.op O.div (E.op O.add (E.var 1) (E.var 2)) (E.c (.int 2)))) (C.ite (T.val (E.op O.le (E.op O.mul (E.var 3) (E.var 3)) (E.var 0))) (C.set 1 (E.var 3)) (C.set 2 (E.var 3))))
@[reducible] def st_law_root_3 : C := (C.whl (T.val (E.op O.gt (E.op O.sub (E.var 2) (E.var 1)) (E.c (.int 1)))) lp_law_root1)
@[reducible] def st_law_root_2 : C := (C.set 2 (E.op O.add (E.var 0) (E.c (.int 1))))
def b_law_root : C := (C.seq (C.set 1 (E.c (.int 0))) (C.seq st_law_root_2 (C.seq st_law_root_3 (C.ret (E.var 1)))))
def m_law_root : Fn := fn 4 1 b_law_root
def lp_law_length1 : C := (C.seq (C.set 5 (E.op O.mul (E.op O.sub (E.op O.ix (E.op O.ix (E.var 0) (E.op O.add (E.var 4) (E.c (.int 1)))) (E.c (.int 0))) (E.op O.ix (E.op O.ix (E.var 0) (E.var 4)) (E.c (.int 0)))) (E.var 1))) (C.seq (C.set 6 (E.op O.mul (E.op O.sub (E.op O.ix (E.op O.ix (E.var 0) (E.op O.add (E.var 4) (E.c (.int 1)))) (E.c (.int 1))) (E.op O.ix (E.op O.ix (E.var 0) (E.var 4)) (E.c (.int 1)))) (E.var 1))) (C.seq (C.set 7 (E.call m_law_root [(E.op O.add (E.op O.mul (E.var 5) (E.var 5)) (E.op O.mul (E.var 6) (E.var 6)))])) (C.seq (C.set 2 (E.op O.add (E.var 2) (E.var 7))) (C.set 3 (E.and (E.var 3) (E.op O.eq (E.op O.mul (E.var 7) (E.var 7)) (E.op O.add (E.op O.mul (E.var 5) (E.var 5)) (E.op O.mul (E.var 6) (E.var 6))))))))))
@[reducible] def st_law_length_4 : C := (C.ret (E.frz (N.disp [(E.var 2), (E.var 3)])))
@[reducible] def st_law_length_3 : C := (C.for_ (I.rng1 (E.op O.sub (E.blt F.len [(E.var 0)]) (E.c (.int 1)))) (G.nm 4) lp_law_length1)
def b_law_length : C := (C.seq (C.set 2 (E.c (.int 0))) (C.seq (C.set 3 (E.c (.bl true))) (C.seq st_law_length_3 st_law_length_4)))
def m_law_length : Fn := fn 8 2 b_law_length
def lp_root1 : C := (C.seq (C.set 3 (E.op O.div (E.op O.add (E.var 1) (E.var 2)) (E.c (.int 2)))) (C.ite (T.val (E.op O.le (E.op O.mul (E.var 3) (E.var 3)) (E.var 0))) (C.set 1 (E.var 3)) (C.set 2 (E.var 3))))
@[reducible] def st_root_4 : C := (C.whl (T.val (E.op O.gt (E.op O.sub (E.var 2) (E.var 1)) (E.c (.int 1)))) lp_root1)
@[reducible] def st_root_3 : C := (C.whl (T.val (E.op O.le (E.op O.mul (E.var 2) (E.var 2)) (E.var 0))) (C.aug 2 O.mul (E.c (.int 2))))
def b_root : C := (C.seq (C.set 1 (E.c (.int 0))) (C.seq (C.set 2 (E.c (.int 1))) (C.seq st_root_3 (C.seq st_root_4 (C.ret (E.var 1))))))
def m_root : Fn := fn 4 1 b_root
def lp_length_bounds1 : C := (C.seq (C.set 5 (E.op O.mul (E.op O.mul (E.call m_distance [(E.op O.ix (E.var 0) (E.var 4)), (E.op O.ix (E.var 0) (E.op O.add (E.var 4) (E.c (.int 1))))]) (E.var 1)) (E.var 1))) (C.seq (C.set 6 (E.call m_root [(E.var 5)])) (C.seq (C.aug 2 O.add (E.var 6)) (C.aug 3 O.add (E.ite (T.val (E.op O.eq (E.op O.mul (E.var 6) (E.var 6)) (E.var 5))) (E.var 6) (E.op O.add (E.var 6) (E.c (.int 1))))))))
@[reducible] def st_length_bounds_4 : C := (C.ret (E.tup [(E.var 2), (E.var 3)]))
@[reducible] def st_length_bounds_3 : C := (C.for_ (I.rng1 (E.op O.sub (E.blt F.len [(E.var 0)]) (E.c (.int 1)))) (G.nm 4) lp_length_bounds1)
def b_length_bounds : C := (C.seq (C.set 2 (E.c (.int 0))) (C.seq (C.set 3 (E.c (.int 0))) (C.seq st_length_bounds_3 st_length_bounds_4)))
def m_length_bounds : Fn := fn 7 2 b_length_bounds
def lp_law1 : C := (C.ite (T.val (E.op O.lt (E.op O.add (E.op O.ix (E.call m_law_length [(E.var 9), (E.var 7)]) (E.c (.int 0))) (E.blt F.len [(E.var 9)])) (E.var 8))) (C.ret (E.c (.bl false))) C.skip)
def cp_law2 : M (List D) := (N.comp (I.rng1 (E.op O.sub (E.blt F.len [(E.var 5)]) (E.c (.int 1)))) (G.nm 13) [13] (ret true) (E.call m_law_length [(E.frz (N.slice (E.var 5) (some (E.var 13)) (some (E.op O.add (E.var 13) (E.c (.int 2)))))), (E.var 7)]))
def cp_law3 : M (List D) := (N.comp (I.seqC (E.var 12)) (G.nm 15) [15] (T.not (T.tru (E.op O.ix (E.var 15) (E.c (.int 1))))) (E.var 15))
def lp_law4 : C := (C.seq (C.set 10 (E.call m_length_bounds [(E.var 5), (E.var 7)])) (C.seq (C.set 11 (E.op O.ix (E.call m_law_length [(E.var 5), (E.var 7)]) (E.c (.int 0)))) (C.seq (C.set 12 (E.frz cp_law2)) (C.seq (C.set 14 (E.op O.add (E.var 11) (E.blt F.len [(E.frz cp_law3)]))) (C.ite (T.or (T.not (T.tru (E.un (F.isi "tuple") (E.var 10)))) (T.val (E.op O.ne (E.var 10) (E.tup [(E.var 11), (E.var 14)])))) (C.ret (E.c (.bl false))) C.skip)))))
@[reducible] def st_law_7 : C := (C.for_ (I.seq (E.frz (N.disp [(E.c (.int 1)), (E.c (.int 10)), (E.op O.add (E.c (.int 1)) (E.call m_law_draw [(E.var 1), (E.c (.int 100000))]))]))) (G.nm 7) lp_law4)
@[reducible] def st_law_6 : C := (C.for_ (I.seq (E.call m_law_strings [(E.var 1), (E.var 2), (E.var 3), (E.var 4)])) (G.nm 9) lp_law1)
@[reducible] def st_law_5 : C := (C.set 8 (E.op O.ix (E.call m_law_length [(E.var 5), (E.op O.mul (E.c (.int 2)) (E.var 7))]) (E.c (.int 0))))
@[reducible] def st_law_4 : C := (C.set 7 (E.c (.int 1000000000)))
@[reducible] def st_law_3 : C := (C.asg (G.tp [(G.nm 5), (G.nm 6)]) (E.call m_taut [(E.var 2), (E.var 3), (E.var 4)]))
@[reducible] def st_law_2 : C := (C.asg (G.tl [(G.nm 2), (G.nm 3), (G.nm 4)]) (E.call m_law_corridor [(E.var 1), (E.c (.int 3))]))
@[reducible] def st_law_1 : C := (C.set 1 (E.call m_law_state [(E.var 0)]))
def b_law : C := (C.seq st_law_1 (C.seq st_law_2 (C.seq st_law_3 (C.seq st_law_4 (C.seq st_law_5 (C.seq st_law_6 (C.seq st_law_7 (C.ret (E.c (.bl true))))))))))
def m_law : Fn := fn 16 1 b_law
end
end W
set_option Elab.async false
set_option linter.all false
set_option maxRecDepth 100000
set_option maxHeartbeats 0
namespace W
open PySem L2 Mi PySem.W
structure Txt (K : Kx) (mg : Str → Option Value) (base : Heap) where
  a_law_state : Addr
  d_law_state : FuncData
  f_law_state : FunD K "_law_state" "_law_state" (defArgs s_law_state) (defBody s_law_state) (defScope s_law_state) [] [] a_law_state d_law_state
  m_law_state : mg "_law_state" = some (.ref a_law_state)
  b_law_state : Binds K d_law_state ["_law_script"] []
  a_law_draw : Addr
  d_law_draw : FuncData
  f_law_draw : FunD K "_law_draw" "_law_draw" (defArgs s_law_draw) (defBody s_law_draw) (defScope s_law_draw) [] [] a_law_draw d_law_draw
  m_law_draw : mg "_law_draw" = some (.ref a_law_draw)
  b_law_draw : Binds K d_law_draw ["_law_state_here", "_law_many"] []
  a_law_side : Addr
  d_law_side : FuncData
  f_law_side : FunD K "_law_side" "_law_side" (defArgs s_law_side) (defBody s_law_side) (defScope s_law_side) [] [] a_law_side d_law_side
  m_law_side : mg "_law_side" = some (.ref a_law_side)
  b_law_side : Binds K d_law_side ["_law_state_here", "_law_rect", "_law_side_here", "_law_used"] []
  a_law_pick : Addr
  d_law_pick : FuncData
  f_law_pick : FunD K "_law_pick" "_law_pick" (defArgs s_law_pick) (defBody s_law_pick) (defScope s_law_pick) [] [] a_law_pick d_law_pick
  m_law_pick : mg "_law_pick" = some (.ref a_law_pick)
  b_law_pick : Binds K d_law_pick ["_law_state_here", "_law_row"] []
  a_law_point : Addr
  d_law_point : FuncData
  f_law_point : FunD K "_law_point" "_law_point" (defArgs s_law_point) (defBody s_law_point) (defScope s_law_point) [] [] a_law_point d_law_point
  m_law_point : mg "_law_point" = some (.ref a_law_point)
  b_law_point : Binds K d_law_point ["_law_state_here", "_law_rect", "_law_ends"] []
  a_law_next : Addr
  d_law_next : FuncData
  f_law_next : FunD K "_law_next" "_law_next" (defArgs s_law_next) (defBody s_law_next) (defScope s_law_next) [] [] a_law_next d_law_next
  m_law_next : mg "_law_next" = some (.ref a_law_next)
  b_law_next : Binds K d_law_next ["_law_state_here", "_law_rect", "_law_side_here", "_law_a", "_law_b"] []
  a_law_corridor : Addr
  d_law_corridor : FuncData
  f_law_corridor : FunD K "_law_corridor" "_law_corridor" (defArgs s_law_corridor) (defBody s_law_corridor) (defScope s_law_corridor) [] [] a_law_corridor d_law_corridor
  m_law_corridor : mg "_law_corridor" = some (.ref a_law_corridor)
  b_law_corridor : Binds K d_law_corridor ["_law_state_here", "_law_most"] []
  a_Funnel___init__ : Addr
  d_Funnel___init__ : FuncData
  f_Funnel___init__ : FunD K "__init__" "Funnel.__init__" (defArgs s_Funnel___init__) (defBody s_Funnel___init__) (defScope s_Funnel___init__) [] [] a_Funnel___init__ d_Funnel___init__
  b_Funnel___init__ : Binds K d_Funnel___init__ ["self", "apex"] []
  a_cross : Addr
  d_cross : FuncData
  f_cross : FunD K "cross" "cross" (defArgs s_cross) (defBody s_cross) (defScope s_cross) [] [] a_cross d_cross
  m_cross : mg "cross" = some (.ref a_cross)
  b_cross : Binds K d_cross ["a", "b", "c"] []
  a_Funnel_misses : Addr
  d_Funnel_misses : FuncData
  f_Funnel_misses : FunD K "misses" "Funnel.misses" (defArgs s_Funnel_misses) (defBody s_Funnel_misses) (defScope s_Funnel_misses) [] [] a_Funnel_misses d_Funnel_misses
  b_Funnel_misses : Binds K d_Funnel_misses ["self", "left", "right"] []
  a_Funnel_narrow : Addr
  d_Funnel_narrow : FuncData
  f_Funnel_narrow : FunD K "narrow" "Funnel.narrow" (defArgs s_Funnel_narrow) (defBody s_Funnel_narrow) (defScope s_Funnel_narrow) [] [] a_Funnel_narrow d_Funnel_narrow
  b_Funnel_narrow : Binds K d_Funnel_narrow ["self", "ends", "at"] []
  a_distance : Addr
  d_distance : FuncData
  f_distance : FunD K "distance" "distance" (defArgs s_distance) (defBody s_distance) (defScope s_distance) [] [] a_distance d_distance
  m_distance : mg "distance" = some (.ref a_distance)
  b_distance : Binds K d_distance ["a", "b"] []
  a_nearer : Addr
  d_nearer : FuncData
  f_nearer : FunD K "nearer" "nearer" (defArgs s_nearer) (defBody s_nearer) (defScope s_nearer) [] [] a_nearer d_nearer
  m_nearer : mg "nearer" = some (.ref a_nearer)
  b_nearer : Binds K d_nearer ["ends", "point"] []
  a_on_gate : Addr
  d_on_gate : FuncData
  f_on_gate : FunD K "on_gate" "on_gate" (defArgs s_on_gate) (defBody s_on_gate) (defScope s_on_gate) [] [] a_on_gate d_on_gate
  m_on_gate : mg "on_gate" = some (.ref a_on_gate)
  b_on_gate : Binds K d_on_gate ["ends", "point"] []
  a_next_bend : Addr
  d_next_bend : FuncData
  f_next_bend : FunD K "next_bend" "next_bend" (defArgs s_next_bend) (defBody s_next_bend) (defScope s_next_bend) [] [] a_next_bend d_next_bend
  m_next_bend : mg "next_bend" = some (.ref a_next_bend)
  b_next_bend : Binds K d_next_bend ["apex", "gates", "first", "end"] []
  a_is_straight : Addr
  d_is_straight : FuncData
  f_is_straight : FunD K "is_straight" "is_straight" (defArgs s_is_straight) (defBody s_is_straight) (defScope s_is_straight) [] [] a_is_straight d_is_straight
  m_is_straight : mg "is_straight" = some (.ref a_is_straight)
  b_is_straight : Binds K d_is_straight ["a", "b", "c"] []
  a_without_straight : Addr
  d_without_straight : FuncData
  f_without_straight : FunD K "without_straight" "without_straight" (defArgs s_without_straight) (defBody s_without_straight) (defScope s_without_straight) [] [] a_without_straight d_without_straight
  m_without_straight : mg "without_straight" = some (.ref a_without_straight)
  b_without_straight : Binds K d_without_straight ["points", "bends"] []
  a_taut : Addr
  d_taut : FuncData
  f_taut : FunD K "taut" "taut" (defArgs s_taut) (defBody s_taut) (defScope s_taut) [] [] a_taut d_taut
  m_taut : mg "taut" = some (.ref a_taut)
  b_taut : Binds K d_taut ["start", "gates", "end"] []
  a_law_on : Addr
  d_law_on : FuncData
  f_law_on : FunD K "_law_on" "_law_on" (defArgs s_law_on) (defBody s_law_on) (defScope s_law_on) [] [] a_law_on d_law_on
  m_law_on : mg "_law_on" = some (.ref a_law_on)
  b_law_on : Binds K d_law_on ["_law_ends", "_law_scale"] []
  a_law_strings : Addr
  d_law_strings : FuncData
  f_law_strings : FunD K "_law_strings" "_law_strings" (defArgs s_law_strings) (defBody s_law_strings) (defScope s_law_strings) [] [] a_law_strings d_law_strings
  m_law_strings : mg "_law_strings" = some (.ref a_law_strings)
  b_law_strings : Binds K d_law_strings ["_law_state_here", "_law_start", "_law_gates", "_law_end"] []
  a_law_root : Addr
  d_law_root : FuncData
  f_law_root : FunD K "_law_root" "_law_root" (defArgs s_law_root) (defBody s_law_root) (defScope s_law_root) [] [] a_law_root d_law_root
  m_law_root : mg "_law_root" = some (.ref a_law_root)
  b_law_root : Binds K d_law_root ["_law_number"] []
  a_law_length : Addr
  d_law_length : FuncData
  f_law_length : FunD K "_law_length" "_law_length" (defArgs s_law_length) (defBody s_law_length) (defScope s_law_length) [] [] a_law_length d_law_length
  m_law_length : mg "_law_length" = some (.ref a_law_length)
  b_law_length : Binds K d_law_length ["_law_points", "_law_scale"] []
  a_root : Addr
  d_root : FuncData
  f_root : FunD K "root" "root" (defArgs s_root) (defBody s_root) (defScope s_root) [] [] a_root d_root
  m_root : mg "root" = some (.ref a_root)
  b_root : Binds K d_root ["number"] []
  a_length_bounds : Addr
  d_length_bounds : FuncData
  f_length_bounds : FunD K "length_bounds" "length_bounds" (defArgs s_length_bounds) (defBody s_length_bounds) (defScope s_length_bounds) [] [] a_length_bounds d_length_bounds
  m_length_bounds : mg "length_bounds" = some (.ref a_length_bounds)
  b_length_bounds : Binds K d_length_bounds ["points", "scale"] []
  a_law : Addr
  d_law : FuncData
  f_law : FunD K "law" "law" (defArgs s_law) (defBody s_law) (defScope s_law) [] [] a_law d_law
  m_law : mg "law" = some (.ref a_law)
  b_law : Binds K d_law ["_law_script"] []
  n_abs : mg "abs" = none
  n_int : mg "int" = none
  n_isinstance : mg "isinstance" = none
  n_len : mg "len" = none
  n_max : mg "max" = none
  n_range : mg "range" = none
  n_tuple : mg "tuple" = none
  C_Funnel : Addr
  ti_Funnel : (("Funnel" : Str), C_Funnel) ∈ K.tb.c
  tc_Funnel : ∀ q ∈ K.tb.c, q.1 = "Funnel" → q.2 = C_Funnel
  cl_Funnel : Cls K C_Funnel
  na_Funnel_apex : NoAttr K C_Funnel "apex"
  na_Funnel_left : NoAttr K C_Funnel "left"
  na_Funnel_right : NoAttr K C_Funnel "right"
  me_Funnel_misses : Meth K C_Funnel "misses" a_Funnel_misses
  me_Funnel_narrow : Meth K C_Funnel "narrow" a_Funnel_narrow
  mk_Funnel : Mk K C_Funnel a_Funnel___init__
  g_Funnel : mg "Funnel" = some (.ref C_Funnel)
section
variable {P : Program} {w : World} {K : Kx} {mg : Str → Option Value} {base : Heap}
theorem ok_law_state (T : Txt K mg base) : FnOk P w K mg base CX0 1 T.a_law_state T.d_law_state ["_law_script"] (spM 1 K m_law_state) := fnD_ok T.f_law_state sc_law_state rfl rfl fun A outer s H Ee hr =>
  (mss_cons (ms_set (i := 1) sc_law_state.nd me_int) (mss_cons (ms_for PassesOwn.never rfl (mi_seq (me_var 0)) seq_noOwn (mg_nm (i := 2) sc_law_state.nd) (mss_one (ms_set (i := 1) sc_law_state.nd (me_op o_mod (me_ty1 f_int1 (by rfl) T.n_int (by decide +kernel) (me_op o_add (me_op o_mul (me_var 1) me_int) (me_var 2))) me_int)))) (mss_one (ms_ret (me_shr (mf_disp (ma_cons (me_shr (mf_lc [2] (own := [("_law_cell", 2)]) rfl sc_law_state.nd (mi_seqC (me_var 0)) (blkOk_by (by kernel_rfl)) rfl (fun _ _ _ _ _ => (mg_nm (i := 2) sc_law_state.nd)) (fun _ _ _ _ _ => mts_nil) (fun _ _ _ _ _ => (me_blt1 f_abs (by rfl) T.n_abs (by decide +kernel) (me_var 2))) (by decide))) (ma_cons (me_op o_add (me_var 1) me_int) ma_nil))))))))
theorem ok_law_draw (T : Txt K mg base) : FnOk P w K mg base CX0 1 T.a_law_draw T.d_law_draw ["_law_state_here", "_law_many"] (spM 2 K m_law_draw) := fnD_ok T.f_law_draw sc_law_draw rfl rfl fun A outer s H Ee hr =>
  (mss_cons (ms_set (i := 2) sc_law_draw.nd (me_ix (me_var 0) me_int)) (mss_cons (ms_whl PassesOwn.never (PW.pt (mw_and (mt_cmp o_gt (me_blt1 f_len (by rfl) T.n_len (by decide +kernel) (me_var 2)) me_int (nomark _)) (mw_and1 (mt_cmp (o_eq hr.units) (me_ix (me_var 2) me_int) me_int (nomark _))))) (mss_one (ms_expr (me_popAt (me_var 2) (ma_cons me_int ma_nil))))) (mss_cons (ms_if (mt_cmp o_gt (me_blt1 f_len (by rfl) T.n_len (by decide +kernel) (me_var 2)) me_int (nomark _)) (mss_cons (ms_set (i := 3) sc_law_draw.nd (me_ix (me_var 2) me_int)) (mss_cons (ms_setIx (me_op o_div (me_var 3) (me_var 1)) (me_var 2) me_int) (mss_one (ms_ret (me_op o_mod (me_ty1 f_int1 (by rfl) T.n_int (by decide +kernel) (me_var 3)) (me_var 1)))))) mss_nil) (mss_cons (ms_set (i := 4) sc_law_draw.nd (me_op o_mod (me_ty1 f_int1 (by rfl) T.n_int (by decide +kernel) (me_op o_add (me_op o_mul (me_ix (me_var 0) me_int) me_int) me_int)) me_int)) (mss_cons (ms_setIx (me_var 4) (me_var 0) me_int) (mss_one (ms_ret (me_op o_mod (me_ty1 f_int1 (by rfl) T.n_int (by decide +kernel) (me_op o_div (me_var 4) me_int)) (me_var 1)))))))))
theorem ok_law_side (T : Txt K mg base) : FnOk P w K mg base CX0 2 T.a_law_side T.d_law_side ["_law_state_here", "_law_rect", "_law_side_here", "_law_used"] (spM 4 K m_law_side) := fnD_ok T.f_law_side sc_law_side rfl rfl fun A outer s H Ee hr =>
  (mss_cons (ms_asg (me_var 1) (mg_tp rfl (mgs_cons (mg_nm (i := 4) sc_law_side.nd) (mgs_cons (mg_nm (i := 5) sc_law_side.nd) (mgs_cons (mg_nm (i := 6) sc_law_side.nd) (mgs_cons (mg_nm (i := 7) sc_law_side.nd) mgs_nil)))))) (mss_cons (ms_asg (me_ix (me_frz (mf_disp (ma_cons (me_tup (ma_cons (me_var 5) (ma_cons (me_var 7) ma_nil))) (ma_cons (me_tup (ma_cons (me_var 4) (ma_cons (me_var 6) ma_nil))) ma_nil)))) (me_op o_mod (me_ty1 f_int1 (by rfl) T.n_int (by decide +kernel) (me_var 2)) me_int)) (mg_tp rfl (mgs_cons (mg_nm (i := 8) sc_law_side.nd) (mgs_cons (mg_nm (i := 9) sc_law_side.nd) mgs_nil)))) (mss_cons (ms_set (i := 10) sc_law_side.nd (me_op o_add (me_var 8) (me_call (ok_law_draw T) (hr.mono (by decide)) (by rfl) T.m_law_draw T.f_law_draw.kp T.b_law_draw (ma_cons (me_var 0) (ma_cons (me_op o_sub (me_op o_sub (me_var 9) (me_var 8)) me_int) ma_nil))))) (mss_cons (ms_set (i := 11) sc_law_side.nd (me_op o_add (me_op o_add (me_var 10) me_int) (me_call (ok_law_draw T) (hr.mono (by decide)) (by rfl) T.m_law_draw T.f_law_draw.kp T.b_law_draw (ma_cons (me_var 0) (ma_cons (me_op o_sub (me_op o_sub (me_var 9) (me_var 10)) me_int) ma_nil))))) (mss_cons (ms_if (PW.pt (mw_and (mt_notN (me_var 3)) (mw_and (mt_cmp (o_eq hr.units) (me_ix (me_var 3) me_int) (me_var 2) (nomark _)) (mw_and (mt_cmp o_lt (me_var 10) (me_ix (me_var 3) me_int) (nomark _)) (mw_and1 (mt_cmp o_lt (me_ix (me_var 3) me_int) (me_var 11) (nomark _))))))) (mss_one (ms_ret me_non)) mss_nil) (mss_one (ms_ret (me_tup (ma_cons (me_var 10) (ma_cons (me_var 11) ma_nil))))))))))
theorem ok_law_pick (T : Txt K mg base) : FnOk P w K mg base CX0 2 T.a_law_pick T.d_law_pick ["_law_state_here", "_law_row"] (spM 2 K m_law_pick) := fnD_ok T.f_law_pick sc_law_pick rfl rfl fun A outer s H Ee hr =>
  (mss_one (ms_ret (me_ix (me_var 1) (me_call (ok_law_draw T) (hr.mono (by decide)) (by rfl) T.m_law_draw T.f_law_draw.kp T.b_law_draw (ma_cons (me_var 0) (ma_cons (me_blt1 f_len (by rfl) T.n_len (by decide +kernel) (me_var 1)) ma_nil))))))
theorem ok_law_point (T : Txt K mg base) : FnOk P w K mg base CX0 3 T.a_law_point T.d_law_point ["_law_state_here", "_law_rect", "_law_ends"] (spM 3 K m_law_point) := fnD_ok T.f_law_point sc_law_point rfl rfl fun A outer s H Ee hr =>
  (mss_cons (ms_asg (me_var 1) (mg_tp rfl (mgs_cons (mg_nm (i := 3) sc_law_point.nd) (mgs_cons (mg_nm (i := 4) sc_law_point.nd) (mgs_cons (mg_nm (i := 5) sc_law_point.nd) (mgs_cons (mg_nm (i := 6) sc_law_point.nd) mgs_nil)))))) (mss_cons (ms_set (i := 7) sc_law_point.nd (me_call (ok_law_draw T) (hr.mono (by decide)) (by rfl) T.m_law_draw T.f_law_draw.kp T.b_law_draw (ma_cons (me_var 0) (ma_cons me_int ma_nil)))) (mss_cons (ms_if (PW.pt (mw_and (mt_cmp (o_eq hr.units) (me_var 7) me_int (nomark _)) (mw_and1 (mt_notN (me_var 2))))) (mss_one (ms_ret (me_call (ok_law_pick T) (hr.mono (by decide)) (by rfl) T.m_law_pick T.f_law_pick.kp T.b_law_pick (ma_cons (me_var 0) (ma_cons (me_var 2) ma_nil))))) mss_nil) (mss_cons (ms_set (i := 8) sc_law_point.nd (me_call (ok_law_pick T) (hr.mono (by decide)) (by rfl) T.m_law_pick T.f_law_pick.kp T.b_law_pick (ma_cons (me_var 0) (ma_cons (me_frz (mf_disp (ma_cons (me_var 3) (ma_cons (me_var 5) (ma_cons (me_op o_add (me_var 3) (me_call (ok_law_draw T) (hr.mono (by decide)) (by rfl) T.m_law_draw T.f_law_draw.kp T.b_law_draw (ma_cons (me_var 0) (ma_cons (me_op o_add (me_op o_sub (me_var 5) (me_var 3)) me_int) ma_nil)))) ma_nil))))) ma_nil)))) (mss_cons (ms_set (i := 9) sc_law_point.nd (me_call (ok_law_pick T) (hr.mono (by decide)) (by rfl) T.m_law_pick T.f_law_pick.kp T.b_law_pick (ma_cons (me_var 0) (ma_cons (me_frz (mf_disp (ma_cons (me_var 4) (ma_cons (me_var 6) (ma_cons (me_op o_add (me_var 4) (me_call (ok_law_draw T) (hr.mono (by decide)) (by rfl) T.m_law_draw T.f_law_draw.kp T.b_law_draw (ma_cons (me_var 0) (ma_cons (me_op o_add (me_op o_sub (me_var 6) (me_var 4)) me_int) ma_nil)))) ma_nil))))) ma_nil)))) (mss_cons (ms_if (mt_cmp o_lt (me_var 7) me_int (nomark _)) (mss_one (ms_ret (me_tup (ma_cons (me_op o_add (me_var 3) (me_call (ok_law_draw T) (hr.mono (by decide)) (by rfl) T.m_law_draw T.f_law_draw.kp T.b_law_draw (ma_cons (me_var 0) (ma_cons (me_op o_add (me_op o_sub (me_var 5) (me_var 3)) me_int) ma_nil)))) (ma_cons (me_op o_add (me_var 4) (me_call (ok_law_draw T) (hr.mono (by decide)) (by rfl) T.m_law_draw T.f_law_draw.kp T.b_law_draw (ma_cons (me_var 0) (ma_cons (me_op o_add (me_op o_sub (me_var 6) (me_var 4)) me_int) ma_nil)))) ma_nil))))) mss_nil) (mss_one (ms_ret (me_tup (ma_cons (me_var 8) (ma_cons (me_var 9) ma_nil)))))))))))
theorem ok_law_next (T : Txt K mg base) : FnOk P w K mg base CX0 2 T.a_law_next T.d_law_next ["_law_state_here", "_law_rect", "_law_side_here", "_law_a", "_law_b"] (spM 5 K m_law_next) := fnD_ok T.f_law_next sc_law_next rfl rfl fun A outer s H Ee hr =>
  (mss_cons (ms_asg (me_var 1) (mg_tp rfl (mgs_cons (mg_nm (i := 5) sc_law_next.nd) (mgs_cons (mg_nm (i := 6) sc_law_next.nd) (mgs_cons (mg_nm (i := 7) sc_law_next.nd) (mgs_cons (mg_nm (i := 8) sc_law_next.nd) mgs_nil)))))) (mss_cons (ms_set (i := 9) sc_law_next.nd (me_op o_sub (me_var 3) (me_call (ok_law_draw T) (hr.mono (by decide)) (by rfl) T.m_law_draw T.f_law_draw.kp T.b_law_draw (ma_cons (me_var 0) (ma_cons me_int ma_nil))))) (mss_cons (ms_set (i := 10) sc_law_next.nd (me_op o_add (me_var 4) (me_call (ok_law_draw T) (hr.mono (by decide)) (by rfl) T.m_law_draw T.f_law_draw.kp T.b_law_draw (ma_cons (me_var 0) (ma_cons me_int ma_nil))))) (mss_cons (ms_set (i := 11) sc_law_next.nd (me_op o_add me_int (me_call (ok_law_draw T) (hr.mono (by decide)) (by rfl) T.m_law_draw T.f_law_draw.kp T.b_law_draw (ma_cons (me_var 0) (ma_cons me_int ma_nil))))) (mss_cons (ms_if (mt_cmp (o_eq hr.units) (me_var 2) me_int (nomark _)) (mss_one (ms_ret (me_frz (mf_disp (ma_cons (me_tup (ma_cons (me_tup (ma_cons (me_var 7) (ma_cons (me_op o_add (me_var 3) me_int) ma_nil))) (ma_cons (me_tup (ma_cons (me_var 7) (ma_cons (me_op o_sub (me_var 4) me_int) ma_nil))) ma_nil))) (ma_cons (me_tup (ma_cons (me_var 7) (ma_cons (me_var 9) (ma_cons (me_op o_add (me_var 7) (me_var 11)) (ma_cons (me_var 10) ma_nil))))) ma_nil)))))) mss_nil) (mss_cons (ms_if (mt_cmp (o_eq hr.units) (me_var 2) me_int (nomark _)) (mss_one (ms_ret (me_frz (mf_disp (ma_cons (me_tup (ma_cons (me_tup (ma_cons (me_op o_sub (me_var 4) me_int) (ma_cons (me_var 8) ma_nil))) (ma_cons (me_tup (ma_cons (me_op o_add (me_var 3) me_int) (ma_cons (me_var 8) ma_nil))) ma_nil))) (ma_cons (me_tup (ma_cons (me_var 9) (ma_cons (me_var 8) (ma_cons (me_var 10) (ma_cons (me_op o_add (me_var 8) (me_var 11)) ma_nil))))) ma_nil)))))) mss_nil) (mss_cons (ms_if (mt_cmp (o_eq hr.units) (me_var 2) me_int (nomark _)) (mss_one (ms_ret (me_frz (mf_disp (ma_cons (me_tup (ma_cons (me_tup (ma_cons (me_var 5) (ma_cons (me_op o_sub (me_var 4) me_int) ma_nil))) (ma_cons (me_tup (ma_cons (me_var 5) (ma_cons (me_op o_add (me_var 3) me_int) ma_nil))) ma_nil))) (ma_cons (me_tup (ma_cons (me_op o_sub (me_var 5) (me_var 11)) (ma_cons (me_var 9) (ma_cons (me_var 5) (ma_cons (me_var 10) ma_nil))))) ma_nil)))))) mss_nil) (mss_one (ms_ret (me_frz (mf_disp (ma_cons (me_tup (ma_cons (me_tup (ma_cons (me_op o_add (me_var 3) me_int) (ma_cons (me_var 6) ma_nil))) (ma_cons (me_tup (ma_cons (me_op o_sub (me_var 4) me_int) (ma_cons (me_var 6) ma_nil))) ma_nil))) (ma_cons (me_tup (ma_cons (me_var 9) (ma_cons (me_op o_sub (me_var 6) (me_var 11)) (ma_cons (me_var 10) (ma_cons (me_var 6) ma_nil))))) ma_nil)))))))))))))
theorem ok_law_corridor (T : Txt K mg base) : FnOk P w K mg base CX0 4 T.a_law_corridor T.d_law_corridor ["_law_state_here", "_law_most"] (spM 2 K m_law_corridor) := fnD_ok T.f_law_corridor sc_law_corridor rfl rfl fun A outer s H Ee hr =>
  (mss_cons (ms_set (i := 2) sc_law_corridor.nd (me_tup (ma_cons me_int (ma_cons me_int (ma_cons (me_op o_add me_int (me_call (ok_law_draw T) (hr.mono (by decide)) (by rfl) T.m_law_draw T.f_law_draw.kp T.b_law_draw (ma_cons (me_var 0) (ma_cons me_int ma_nil)))) (ma_cons (me_op o_add me_int (me_call (ok_law_draw T) (hr.mono (by decide)) (by rfl) T.m_law_draw T.f_law_draw.kp T.b_law_draw (ma_cons (me_var 0) (ma_cons me_int ma_nil)))) ma_nil)))))) (mss_cons (ms_set (i := 3) sc_law_corridor.nd (me_var 2)) (mss_cons (ms_own (i := 4) sc_law_corridor.nd (mf_disp ma_nil)) (mss_cons (ms_set (i := 5) sc_law_corridor.nd me_non) (mss_cons (ms_set (i := 6) sc_law_corridor.nd (me_call (ok_law_draw T) (hr.mono (by decide)) (by rfl) T.m_law_draw T.f_law_draw.kp T.b_law_draw (ma_cons (me_var 0) (ma_cons me_int ma_nil)))) (mss_cons (ms_for PassesOwn.never rfl (mi_rng1 (by rfl) T.n_range (me_call (ok_law_draw T) (hr.mono (by decide)) (by rfl) T.m_law_draw T.f_law_draw.kp T.b_law_draw (ma_cons (me_var 0) (ma_cons (me_op o_add (me_var 1) me_int) ma_nil)))) rng1_noOwn (mg_nm (i := 7) sc_law_corridor.nd) (mss_cons (ms_set (i := 8) sc_law_corridor.nd (me_op o_mod (me_ty1 f_int1 (by rfl) T.n_int (by decide +kernel) (me_op o_add (me_op o_add (me_var 6) (me_call (ok_law_pick T) (hr.mono (by decide)) (by rfl) T.m_law_pick T.f_law_pick.kp T.b_law_pick (ma_cons (me_var 0) (ma_cons (me_frz (mf_disp (ma_cons me_int (ma_cons me_int (ma_cons me_int (ma_cons me_int (ma_cons me_int (ma_cons me_int ma_nil)))))))) ma_nil)))) (me_op o_mul me_int (me_call (ok_law_draw T) (hr.mono (by decide)) (by rfl) T.m_law_draw T.f_law_draw.kp T.b_law_draw (ma_cons (me_var 0) (ma_cons me_int ma_nil)))))) me_int)) (mss_cons (ms_set (i := 9) sc_law_corridor.nd (me_call (ok_law_side T) (hr.mono (by decide)) (by rfl) T.m_law_side T.f_law_side.kp T.b_law_side (ma_cons (me_var 0) (ma_cons (me_var 2) (ma_cons (me_var 8) (ma_cons (me_var 5) ma_nil)))))) (mss_one (ms_if (mt_notN (me_var 9)) (mss_cons (ms_asg (me_call (ok_law_next T) (hr.mono (by decide)) (by rfl) T.m_law_next T.f_law_next.kp T.b_law_next (ma_cons (me_var 0) (ma_cons (me_var 2) (ma_cons (me_var 8) (ma_cons (me_ix (me_var 9) me_int) (ma_cons (me_ix (me_var 9) me_int) ma_nil)))))) (mg_tl rfl (mgs_cons (mg_nm (i := 10) sc_law_corridor.nd) (mgs_cons (mg_nm (i := 2) sc_law_corridor.nd) mgs_nil)))) (mss_cons (ms_expr (me_append (me_var 4) (ma_cons (me_var 10) ma_nil))) (mss_cons (ms_set (i := 5) sc_law_corridor.nd (me_tup (ma_cons (me_op o_mod (me_ty1 f_int1 (by rfl) T.n_int (by decide +kernel) (me_op o_add (me_var 8) me_int)) me_int) (ma_cons (me_ix (me_var 9) me_int) (ma_cons (me_ix (me_var 9) me_int) ma_nil))))) (mss_one (ms_set (i := 6) sc_law_corridor.nd (me_var 8)))))) mss_nil))))) (mss_frz 4 (mss_cons (ms_if (mt_cmp (o_eq hr.units) (me_blt1 f_len (by rfl) T.n_len (by decide +kernel) (me_var 4)) me_int (nomark _)) (mss_one (ms_ret (me_frz (mf_disp (ma_cons (me_call (ok_law_point T) (hr.mono (by decide)) (by rfl) T.m_law_point T.f_law_point.kp T.b_law_point (ma_cons (me_var 0) (ma_cons (me_var 3) (ma_cons me_non ma_nil)))) (ma_cons (me_var 4) (ma_cons (me_call (ok_law_point T) (hr.mono (by decide)) (by rfl) T.m_law_point T.f_law_point.kp T.b_law_point (ma_cons (me_var 0) (ma_cons (me_var 3) (ma_cons me_non ma_nil)))) ma_nil))))))) mss_nil) (mss_one (ms_ret (me_frz (mf_disp (ma_cons (me_call (ok_law_point T) (hr.mono (by decide)) (by rfl) T.m_law_point T.f_law_point.kp T.b_law_point (ma_cons (me_var 0) (ma_cons (me_var 3) (ma_cons (me_ix (me_var 4) me_int) ma_nil)))) (ma_cons (me_var 4) (ma_cons (me_call (ok_law_point T) (hr.mono (by decide)) (by rfl) T.m_law_point T.f_law_point.kp T.b_law_point (ma_cons (me_var 0) (ma_cons (me_var 2) (ma_cons (me_ix (me_var 4) (me_op o_sub (me_blt1 f_len (by rfl) T.n_len (by decide +kernel) (me_var 4)) me_int)) ma_nil)))) ma_nil)))))))))))))))
theorem ok_Funnel___init__ (T : Txt K mg base) : FnOk P w K mg base CX0 1 T.a_Funnel___init__ T.d_Funnel___init__ ["self", "apex"] (spM 2 K m_Funnel___init__) := fnD_ok T.f_Funnel___init__ sc_Funnel___init__ rfl rfl fun A outer s H Ee hr =>
  (mss_cons (ms_fsetC T.tc_Funnel T.cl_Funnel T.na_Funnel_apex (me_var 0) (me_var 1)) (mss_cons (ms_fsetC T.tc_Funnel T.cl_Funnel T.na_Funnel_left (me_var 0) me_non) (mss_one (ms_fsetC T.tc_Funnel T.cl_Funnel T.na_Funnel_right (me_var 0) me_non))))
theorem ok_cross (T : Txt K mg base) : FnOk P w K mg base CX0 1 T.a_cross T.d_cross ["a", "b", "c"] (spM 3 K m_cross) := fnD_ok T.f_cross sc_cross rfl rfl fun A outer s H Ee hr =>
  (mss_one (ms_ret (me_op o_sub (me_op o_mul (me_op o_sub (me_ix (me_var 1) me_int) (me_ix (me_var 0) me_int)) (me_op o_sub (me_ix (me_var 2) me_int) (me_ix (me_var 0) me_int))) (me_op o_mul (me_op o_sub (me_ix (me_var 1) me_int) (me_ix (me_var 0) me_int)) (me_op o_sub (me_ix (me_var 2) me_int) (me_ix (me_var 0) me_int))))))
theorem ok_Funnel_misses (T : Txt K mg base) : FnOk P w K mg base CX0 2 T.a_Funnel_misses T.d_Funnel_misses ["self", "left", "right"] (spM 3 K m_Funnel_misses) := fnD_ok T.f_Funnel_misses sc_Funnel_misses rfl rfl fun A outer s H Ee hr =>
  (mss_cons (ms_if (mt_isN (me_fldC T.tc_Funnel T.cl_Funnel T.na_Funnel_left (me_var 0))) (mss_one (ms_ret me_non)) mss_nil) (mss_cons (ms_if (mt_cmp o_gt (me_call (ok_cross T) (hr.mono (by decide)) (by rfl) T.m_cross T.f_cross.kp T.b_cross (ma_cons (me_fldC T.tc_Funnel T.cl_Funnel T.na_Funnel_apex (me_var 0)) (ma_cons (me_ix (me_fldC T.tc_Funnel T.cl_Funnel T.na_Funnel_left (me_var 0)) me_int) (ma_cons (me_var 2) ma_nil)))) me_int (nomark _)) (mss_one (ms_ret (me_fldC T.tc_Funnel T.cl_Funnel T.na_Funnel_left (me_var 0)))) mss_nil) (mss_cons (ms_if (mt_cmp o_lt (me_call (ok_cross T) (hr.mono (by decide)) (by rfl) T.m_cross T.f_cross.kp T.b_cross (ma_cons (me_fldC T.tc_Funnel T.cl_Funnel T.na_Funnel_apex (me_var 0)) (ma_cons (me_ix (me_fldC T.tc_Funnel T.cl_Funnel T.na_Funnel_right (me_var 0)) me_int) (ma_cons (me_var 1) ma_nil)))) me_int (nomark _)) (mss_one (ms_ret (me_fldC T.tc_Funnel T.cl_Funnel T.na_Funnel_right (me_var 0)))) mss_nil) (mss_one (ms_ret me_non)))))
theorem ok_Funnel_narrow (T : Txt K mg base) : FnOk P w K mg base CX0 2 T.a_Funnel_narrow T.d_Funnel_narrow ["self", "ends", "at"] (spM 3 K m_Funnel_narrow) := fnD_ok T.f_Funnel_narrow sc_Funnel_narrow rfl rfl fun A outer s H Ee hr =>
  (mss_cons (ms_if (PW.pt (mw_or (mt_isN (me_fldC T.tc_Funnel T.cl_Funnel T.na_Funnel_left (me_var 0))) (mw_or1 (mt_cmp o_le (me_call (ok_cross T) (hr.mono (by decide)) (by rfl) T.m_cross T.f_cross.kp T.b_cross (ma_cons (me_fldC T.tc_Funnel T.cl_Funnel T.na_Funnel_apex (me_var 0)) (ma_cons (me_ix (me_fldC T.tc_Funnel T.cl_Funnel T.na_Funnel_left (me_var 0)) me_int) (ma_cons (me_ix (me_var 1) me_int) ma_nil)))) me_int (nomark _))))) (mss_one (ms_fsetC T.tc_Funnel T.cl_Funnel T.na_Funnel_left (me_var 0) (me_tup (ma_cons (me_ix (me_var 1) me_int) (ma_cons (me_var 2) ma_nil))))) mss_nil) (mss_one (ms_if (PW.pt (mw_or (mt_isN (me_fldC T.tc_Funnel T.cl_Funnel T.na_Funnel_right (me_var 0))) (mw_or1 (mt_cmp o_ge (me_call (ok_cross T) (hr.mono (by decide)) (by rfl) T.m_cross T.f_cross.kp T.b_cross (ma_cons (me_fldC T.tc_Funnel T.cl_Funnel T.na_Funnel_apex (me_var 0)) (ma_cons (me_ix (me_fldC T.tc_Funnel T.cl_Funnel T.na_Funnel_right (me_var 0)) me_int) (ma_cons (me_ix (me_var 1) me_int) ma_nil)))) me_int (nomark _))))) (mss_one (ms_fsetC T.tc_Funnel T.cl_Funnel T.na_Funnel_right (me_var 0) (me_tup (ma_cons (me_ix (me_var 1) me_int) (ma_cons (me_var 2) ma_nil))))) mss_nil)))
theorem ok_distance (T : Txt K mg base) : FnOk P w K mg base CX0 1 T.a_distance T.d_distance ["a", "b"] (spM 2 K m_distance) := fnD_ok T.f_distance sc_distance rfl rfl fun A outer s H Ee hr =>
  (mss_one (ms_ret (me_op o_add (me_op o_mul (me_op o_sub (me_ix (me_var 0) me_int) (me_ix (me_var 1) me_int)) (me_op o_sub (me_ix (me_var 0) me_int) (me_ix (me_var 1) me_int))) (me_op o_mul (me_op o_sub (me_ix (me_var 0) me_int) (me_ix (me_var 1) me_int)) (me_op o_sub (me_ix (me_var 0) me_int) (me_ix (me_var 1) me_int))))))
theorem ok_nearer (T : Txt K mg base) : FnOk P w K mg base CX0 2 T.a_nearer T.d_nearer ["ends", "point"] (spM 2 K m_nearer) := fnD_ok T.f_nearer sc_nearer rfl rfl fun A outer s H Ee hr =>
  (mss_cons (ms_if (mt_cmp o_le (me_call (ok_distance T) (hr.mono (by decide)) (by rfl) T.m_distance T.f_distance.kp T.b_distance (ma_cons (me_ix (me_var 0) me_int) (ma_cons (me_var 1) ma_nil))) (me_call (ok_distance T) (hr.mono (by decide)) (by rfl) T.m_distance T.f_distance.kp T.b_distance (ma_cons (me_ix (me_var 0) me_int) (ma_cons (me_var 1) ma_nil))) (nomark _)) (mss_one (ms_ret (me_ix (me_var 0) me_int))) mss_nil) (mss_one (ms_ret (me_ix (me_var 0) me_int))))
theorem ok_on_gate (T : Txt K mg base) : FnOk P w K mg base CX0 2 T.a_on_gate T.d_on_gate ["ends", "point"] (spM 2 K m_on_gate) := fnD_ok T.f_on_gate sc_on_gate rfl rfl fun A outer s H Ee hr =>
  (mss_cons (ms_if (mt_cmp (o_ne hr.units) (me_call (ok_cross T) (hr.mono (by decide)) (by rfl) T.m_cross T.f_cross.kp T.b_cross (ma_cons (me_ix (me_var 0) me_int) (ma_cons (me_ix (me_var 0) me_int) (ma_cons (me_var 1) ma_nil)))) me_int (nomark _)) (mss_one (ms_ret me_bl)) mss_nil) (mss_one (ms_ret (me_cmp o_le (me_op o_add (me_call (ok_distance T) (hr.mono (by decide)) (by rfl) T.m_distance T.f_distance.kp T.b_distance (ma_cons (me_ix (me_var 0) me_int) (ma_cons (me_var 1) ma_nil))) (me_call (ok_distance T) (hr.mono (by decide)) (by rfl) T.m_distance T.f_distance.kp T.b_distance (ma_cons (me_var 1) (ma_cons (me_ix (me_var 0) me_int) ma_nil)))) (me_call (ok_distance T) (hr.mono (by decide)) (by rfl) T.m_distance T.f_distance.kp T.b_distance (ma_cons (me_ix (me_var 0) me_int) (ma_cons (me_ix (me_var 0) me_int) ma_nil))) (nomark _)))))
theorem ok_next_bend (T : Txt K mg base) : FnOk P w K mg base CX0 3 T.a_next_bend T.d_next_bend ["apex", "gates", "first", "end"] (spM 4 K m_next_bend) := gc_ok <| fnD_ok (b := b_next_bend) T.f_next_bend sc_next_bend rfl rfl fun A outer s H Ee hr =>
  (mss_cons (ms_set (i := 4) sc_next_bend.nd (me_mkR (n := 1) T.ti_Funnel T.mk_Funnel (ok_Funnel___init__ T) (hr.mono (by decide)) (by rfl) T.g_Funnel T.b_Funnel___init__ rfl (ma_cons (me_var 0) ma_nil))) (mss_cons (ms_for PassesOwn.never rfl (mi_rng2 (by rfl) T.n_range (me_var 2) (me_blt1 f_len (by rfl) T.n_len (by decide +kernel) (me_var 1))) rng2_noOwn (mg_nm (i := 5) sc_next_bend.nd) (mss_cons (ms_set (i := 6) sc_next_bend.nd (me_ix (me_var 1) (me_var 5))) (mss_cons (ms_if (mt_cmp (o_eq hr.units) (me_call (ok_cross T) (hr.mono (by decide)) (by rfl) T.m_cross T.f_cross.kp T.b_cross (ma_cons (me_ix (me_var 6) me_int) (ma_cons (me_ix (me_var 6) me_int) (ma_cons (me_var 0) ma_nil)))) me_int (nomark _)) (mss_cons (ms_if (PW.pt (mw_and (mt_isN (me_fldC T.tc_Funnel T.cl_Funnel T.na_Funnel_left (me_var 4))) (mw_and1 (mt_tru (me_call (ok_on_gate T) (hr.mono (by decide)) (by rfl) T.m_on_gate T.f_on_gate.kp T.b_on_gate (ma_cons (me_var 6) (ma_cons (me_var 0) ma_nil))))))) (mss_one ms_cnt) mss_nil) (mss_cons (ms_set (i := 7) sc_next_bend.nd (me_call (ok_nearer T) (hr.mono (by decide)) (by rfl) T.m_nearer T.f_nearer.kp T.b_nearer (ma_cons (me_var 6) (ma_cons (me_var 0) ma_nil)))) (mss_cons (ms_set (i := 8) sc_next_bend.nd (me_meth T.tc_Funnel T.cl_Funnel T.me_Funnel_misses (ok_Funnel_misses T) (hr.mono (by decide)) T.b_Funnel_misses (me_var 4) (ma_cons (me_var 7) (ma_cons (me_var 7) ma_nil)))) (mss_one (ms_ret (me_ite (mt_isN (me_var 8)) (me_tup (ma_cons (me_var 7) (ma_cons (me_var 5) ma_nil))) (me_var 8))))))) mss_nil) (mss_cons (ms_set (i := 8) sc_next_bend.nd (me_meth T.tc_Funnel T.cl_Funnel T.me_Funnel_misses (ok_Funnel_misses T) (hr.mono (by decide)) T.b_Funnel_misses (me_var 4) (ma_cons (me_ix (me_var 6) me_int) (ma_cons (me_ix (me_var 6) me_int) ma_nil)))) (mss_cons (ms_if (mt_notN (me_var 8)) (mss_one (ms_ret (me_var 8))) mss_nil) (mss_one (ms_expr (me_meth T.tc_Funnel T.cl_Funnel T.me_Funnel_narrow (ok_Funnel_narrow T) (hr.mono (by decide)) T.b_Funnel_narrow (me_var 4) (ma_cons (me_var 6) (ma_cons (me_var 5) ma_nil)))))))))) (mss_one (ms_ret (me_meth T.tc_Funnel T.cl_Funnel T.me_Funnel_misses (ok_Funnel_misses T) (hr.mono (by decide)) T.b_Funnel_misses (me_var 4) (ma_cons (me_var 3) (ma_cons (me_var 3) ma_nil)))))))
theorem ok_is_straight (T : Txt K mg base) : FnOk P w K mg base CX0 2 T.a_is_straight T.d_is_straight ["a", "b", "c"] (spM 3 K m_is_straight) := fnD_ok T.f_is_straight sc_is_straight rfl rfl fun A outer s H Ee hr =>
  (mss_cons (ms_if (mt_cmp (o_ne hr.units) (me_call (ok_cross T) (hr.mono (by decide)) (by rfl) T.m_cross T.f_cross.kp T.b_cross (ma_cons (me_var 0) (ma_cons (me_var 1) (ma_cons (me_var 2) ma_nil)))) me_int (nomark _)) (mss_one (ms_ret me_bl)) mss_nil) (mss_one (ms_ret (me_cmp o_gt (me_op o_add (me_op o_mul (me_op o_sub (me_ix (me_var 1) me_int) (me_ix (me_var 0) me_int)) (me_op o_sub (me_ix (me_var 2) me_int) (me_ix (me_var 1) me_int))) (me_op o_mul (me_op o_sub (me_ix (me_var 1) me_int) (me_ix (me_var 0) me_int)) (me_op o_sub (me_ix (me_var 2) me_int) (me_ix (me_var 1) me_int)))) me_int (nomark _)))))
theorem ok_without_straight (T : Txt K mg base) : FnOk P w K mg base CX0 3 T.a_without_straight T.d_without_straight ["points", "bends"] (spM 2 K m_without_straight) := fnD_ok T.f_without_straight sc_without_straight rfl rfl fun A outer s H Ee hr =>
  (mss_cons (ms_own (i := 2) sc_without_straight.nd (mf_disp (ma_cons (me_ix (me_var 0) me_int) ma_nil))) (mss_cons (ms_own (i := 3) sc_without_straight.nd (mf_disp ma_nil)) (mss_cons (ms_for PassesOwn.never rfl (mi_rng2 (by rfl) T.n_range me_int (me_op o_sub (me_blt1 f_len (by rfl) T.n_len (by decide +kernel) (me_var 0)) me_int)) rng2_noOwn (mg_nm (i := 4) sc_without_straight.nd) (mss_one (ms_if (mt_not (mt_tru (me_call (ok_is_straight T) (hr.mono (by decide)) (by rfl) T.m_is_straight T.f_is_straight.kp T.b_is_straight (ma_cons (me_ix (me_var 2) (me_neg me_int)) (ma_cons (me_ix (me_var 0) (me_var 4)) (ma_cons (me_ix (me_var 0) (me_op o_add (me_var 4) me_int)) ma_nil)))))) (mss_cons (ms_expr (me_append (me_var 2) (ma_cons (me_ix (me_var 0) (me_var 4)) ma_nil))) (mss_one (ms_expr (me_append (me_var 3) (ma_cons (me_ix (me_var 1) (me_op o_sub (me_var 4) me_int)) ma_nil))))) mss_nil))) (mss_cons (ms_if (mt_cmp o_gt (me_blt1 f_len (by rfl) T.n_len (by decide +kernel) (me_var 0)) me_int (nomark _)) (mss_one (ms_expr (me_append (me_var 2) (ma_cons (me_ix (me_var 0) (me_neg me_int)) ma_nil)))) mss_nil) (mss_frz 3 (mss_frz 2 (mss_one (ms_ret (me_tup (ma_cons (me_var 2) (ma_cons (me_var 3) ma_nil)))))))))))
theorem ok_taut (T : Txt K mg base) : FnOk P w K mg base CX0 4 T.a_taut T.d_taut ["start", "gates", "end"] (spM 3 K m_taut) := fnD_ok T.f_taut sc_taut rfl rfl fun A outer s H Ee hr =>
  (mss_cons (ms_own (i := 3) sc_taut.nd (mf_disp (ma_cons (me_var 0) ma_nil))) (mss_cons (ms_own (i := 4) sc_taut.nd (mf_disp ma_nil)) (mss_cons (ms_set (i := 5) sc_taut.nd (me_call (ok_next_bend T) (hr.mono (by decide)) (by rfl) T.m_next_bend T.f_next_bend.kp T.b_next_bend (ma_cons (me_var 0) (ma_cons (me_var 1) (ma_cons me_int (ma_cons (me_var 2) ma_nil)))))) (mss_cons (ms_whl PassesOwn.never (mt_notN (me_var 5)) (mss_cons (ms_expr (me_append (me_var 3) (ma_cons (me_ix (me_var 5) me_int) ma_nil))) (mss_cons (ms_expr (me_append (me_var 4) (ma_cons (me_ix (me_var 5) me_int) ma_nil))) (mss_one (ms_set (i := 5) sc_taut.nd (me_call (ok_next_bend T) (hr.mono (by decide)) (by rfl) T.m_next_bend T.f_next_bend.kp T.b_next_bend (ma_cons (me_ix (me_var 5) me_int) (ma_cons (me_var 1) (ma_cons (me_op o_add (me_ix (me_var 5) me_int) me_int) (ma_cons (me_var 2) ma_nil)))))))))) (mss_cons (ms_if (mt_cmp (o_ne hr.units) (me_ix (me_var 3) (me_neg me_int)) (me_var 2) (nomark _)) (mss_one (ms_expr (me_append (me_var 3) (ma_cons (me_var 2) ma_nil)))) mss_nil) (mss_frz 3 (mss_frz 4 (mss_one (ms_ret (me_call (ok_without_straight T) (hr.mono (by decide)) (by rfl) T.m_without_straight T.f_without_straight.kp T.b_without_straight (ma_cons (me_var 3) (ma_cons (me_var 4) ma_nil))))))))))))
theorem ok_law_on (T : Txt K mg base) : FnOk P w K mg base CX0 1 T.a_law_on T.d_law_on ["_law_ends", "_law_scale"] (spM 2 K m_law_on) := fnD_ok T.f_law_on sc_law_on rfl rfl fun A outer s H Ee hr =>
  (mss_cons (ms_asg (me_var 0) (mg_tp rfl (mgs_cons (mg_tp rfl (mgs_cons (mg_nm (i := 2) sc_law_on.nd) (mgs_cons (mg_nm (i := 3) sc_law_on.nd) mgs_nil))) (mgs_cons (mg_tp rfl (mgs_cons (mg_nm (i := 4) sc_law_on.nd) (mgs_cons (mg_nm (i := 5) sc_law_on.nd) mgs_nil))) mgs_nil)))) (mss_cons (ms_set (i := 6) sc_law_on.nd (me_blt2 (f_max2 rfl) (by rfl) T.n_max (by decide +kernel) (ma_cons (me_blt1 f_abs (by rfl) T.n_abs (by decide +kernel) (me_op o_sub (me_var 4) (me_var 2))) (ma_cons (me_blt1 f_abs (by rfl) T.n_abs (by decide +kernel) (me_op o_sub (me_var 5) (me_var 3))) ma_nil)))) (mss_cons (ms_set (i := 7) sc_law_on.nd (me_frz (mf_disp (ma_cons (me_op o_mul (me_ty1 f_int1 (by rfl) T.n_int (by decide +kernel) (me_cmp (o_ne hr.units) (me_var 2) (me_var 4) (nomark _))) (me_op o_sub me_int (me_op o_mul me_int (me_ty1 f_int1 (by rfl) T.n_int (by decide +kernel) (me_cmp o_lt (me_var 4) (me_var 2) (nomark _)))))) (ma_cons (me_op o_mul (me_ty1 f_int1 (by rfl) T.n_int (by decide +kernel) (me_cmp (o_ne hr.units) (me_var 3) (me_var 5) (nomark _))) (me_op o_sub me_int (me_op o_mul me_int (me_ty1 f_int1 (by rfl) T.n_int (by decide +kernel) (me_cmp o_lt (me_var 5) (me_var 3) (nomark _)))))) ma_nil))))) (mss_one (ms_ret (me_frz (mf_lc [8] (own := [("_law_k", 8)]) rfl sc_law_on.nd (mi_rng1 (by rfl) T.n_range (me_op o_add (me_op o_mul (me_var 6) (me_var 1)) me_int)) (blkOk_by (by kernel_rfl)) rfl (fun _ _ _ _ _ => (mg_nm (i := 8) sc_law_on.nd)) (fun _ _ _ _ _ => mts_nil) (fun _ _ _ _ _ => (me_tup (ma_cons (me_op o_add (me_op o_mul (me_var 1) (me_var 2)) (me_op o_mul (me_var 8) (me_ix (me_var 7) me_int))) (ma_cons (me_op o_add (me_op o_mul (me_var 1) (me_var 3)) (me_op o_mul (me_var 8) (me_ix (me_var 7) me_int))) ma_nil)))) (by decide))))))))
theorem ok_law_strings (T : Txt K mg base) : FnOk P w K mg base CX0 3 T.a_law_strings T.d_law_strings ["_law_state_here", "_law_start", "_law_gates", "_law_end"] (spM 4 K m_law_strings) := fnD_ok T.f_law_strings sc_law_strings rfl rfl fun A outer s H Ee hr =>
  (mss_cons (ms_set (i := 4) sc_law_strings.nd (me_frz (mf_disp (ma_cons (me_frz (mf_disp (ma_cons (me_tup (ma_cons (me_op o_mul me_int (me_ix (me_var 1) me_int)) (ma_cons (me_op o_mul me_int (me_ix (me_var 1) me_int)) ma_nil))) ma_nil))) ma_nil)))) (mss_cons (ms_for PassesOwn.never rfl (mi_seq (me_var 2)) seq_noOwn (mg_nm (i := 5) sc_law_strings.nd) (mss_cons (ms_set (i := 6) sc_law_strings.nd (me_call (ok_law_on T) (hr.mono (by decide)) (by rfl) T.m_law_on T.f_law_on.kp T.b_law_on (ma_cons (me_var 5) (ma_cons me_int ma_nil)))) (mss_cons (ms_if (mt_cmp o_gt (me_op o_mul (me_blt1 f_len (by rfl) T.n_len (by decide +kernel) (me_var 4)) (me_blt1 f_len (by rfl) T.n_len (by decide +kernel) (me_var 6))) me_int (nomark _)) (mss_cons (ms_set (i := 6) sc_law_strings.nd (me_frz (mf_disp (ma_cons (me_ix (me_var 5) me_int) (ma_cons (me_ix (me_var 5) me_int) ma_nil))))) (mss_one (ms_set (i := 6) sc_law_strings.nd (me_frz (mf_cat (me_frz (mf_lc [7, 8] (own := [("_law_x", 7), ("_law_z", 8)]) rfl sc_law_strings.nd (mi_seqC (me_var 6)) (blkOk_by (by kernel_rfl)) rfl (fun _ _ _ _ _ => (mg_tp rfl (mgs_cons (mg_nm (i := 7) sc_law_strings.nd) (mgs_cons (mg_nm (i := 8) sc_law_strings.nd) mgs_nil)))) (fun _ _ _ _ _ => mts_nil) (fun _ _ _ _ _ => (me_tup (ma_cons (me_op o_mul me_int (me_var 7)) (ma_cons (me_op o_mul me_int (me_var 8)) ma_nil)))) (by decide))) (me_frz (mf_disp (ma_cons (me_call (ok_law_pick T) (hr.mono (by decide)) (by rfl) T.m_law_pick T.f_law_pick.kp T.b_law_pick (ma_cons (me_var 0) (ma_cons (me_call (ok_law_on T) (hr.mono (by decide)) (by rfl) T.m_law_on T.f_law_on.kp T.b_law_on (ma_cons (me_var 5) (ma_cons me_int ma_nil))) ma_nil))) ma_nil)))))))) mss_nil) (mss_cons (ms_set (i := 9) sc_law_strings.nd (me_frz (mf_disp ma_nil))) (mss_cons (ms_for PassesOwn.never rfl (mi_seq (me_var 4)) seq_noOwn (mg_nm (i := 10) sc_law_strings.nd) (mss_one (ms_set (i := 9) sc_law_strings.nd (me_frz (mf_cat (me_var 9) (me_frz (mf_lc [11] (own := [("_law_point_here", 11)]) rfl sc_law_strings.nd (mi_seqC (me_var 6)) (blkOk_by (by kernel_rfl)) rfl (fun _ _ _ _ _ => (mg_nm (i := 11) sc_law_strings.nd)) (fun _ _ _ _ _ => mts_nil) (fun _ _ _ _ _ => (me_frz (mf_cat (me_var 10) (me_frz (mf_disp (ma_cons (me_var 11) ma_nil)))))) (by decide)))))))) (mss_one (ms_set (i := 4) sc_law_strings.nd (me_frz (mf_slice (me_var 9) mo_none (mo_some me_int)))))))))) (mss_one (ms_ret (me_frz (mf_lc [10] (own := [("_law_row", 10)]) rfl sc_law_strings.nd (mi_seqC (me_var 4)) (blkOk_by (by kernel_rfl)) rfl (fun _ _ _ _ _ => (mg_nm (i := 10) sc_law_strings.nd)) (fun _ _ _ _ _ => mts_nil) (fun _ _ _ _ _ => (me_frz (mf_cat (me_var 10) (me_frz (mf_disp (ma_cons (me_tup (ma_cons (me_op o_mul me_int (me_ix (me_var 3) me_int)) (ma_cons (me_op o_mul me_int (me_ix (me_var 3) me_int)) ma_nil))) ma_nil)))))) (by decide)))))))
theorem ok_law_root (T : Txt K mg base) : FnOk P w K mg base CX0 1 T.a_law_root T.d_law_root ["_law_number"] (spM 1 K m_law_root) := fnD_ok T.f_law_root sc_law_root rfl rfl fun A outer s H Ee hr =>
  (mss_cons (ms_set (i := 1) sc_law_root.nd me_int) (mss_cons (ms_set (i := 2) sc_law_root.nd (me_op o_add (me_var 0) me_int)) (mss_cons (ms_whl PassesOwn.never (mt_cmp o_gt (me_op o_sub (me_var 2) (me_var 1)) me_int (nomark _)) (mss_cons (ms_set (i := 3) sc_law_root.nd (me_op o_div (me_op o_add (me_var 1) (me_var 2)) me_int)) (mss_one (ms_if (mt_cmp o_le (me_op o_mul (me_var 3) (me_var 3)) (me_var 0) (nomark _)) (mss_one (ms_set (i := 1) sc_law_root.nd (me_var 3))) (mss_one (ms_set (i := 2) sc_law_root.nd (me_var 3))))))) (mss_one (ms_ret (me_var 1))))))
theorem ok_law_length (T : Txt K mg base) : FnOk P w K mg base CX0 2 T.a_law_length T.d_law_length ["_law_points", "_law_scale"] (spM 2 K m_law_length) := fnD_ok T.f_law_length sc_law_length rfl rfl fun A outer s H Ee hr =>
  (mss_cons (ms_set (i := 2) sc_law_length.nd me_int) (mss_cons (ms_set (i := 3) sc_law_length.nd me_bl) (mss_cons (ms_for PassesOwn.never rfl (mi_rng1 (by rfl) T.n_range (me_op o_sub (me_blt1 f_len (by rfl) T.n_len (by decide +kernel) (me_var 0)) me_int)) rng1_noOwn (mg_nm (i := 4) sc_law_length.nd) (mss_cons (ms_set (i := 5) sc_law_length.nd (me_op o_mul (me_op o_sub (me_ix (me_ix (me_var 0) (me_op o_add (me_var 4) me_int)) me_int) (me_ix (me_ix (me_var 0) (me_var 4)) me_int)) (me_var 1))) (mss_cons (ms_set (i := 6) sc_law_length.nd (me_op o_mul (me_op o_sub (me_ix (me_ix (me_var 0) (me_op o_add (me_var 4) me_int)) me_int) (me_ix (me_ix (me_var 0) (me_var 4)) me_int)) (me_var 1))) (mss_cons (ms_set (i := 7) sc_law_length.nd (me_call (ok_law_root T) (hr.mono (by decide)) (by rfl) T.m_law_root T.f_law_root.kp T.b_law_root (ma_cons (me_op o_add (me_op o_mul (me_var 5) (me_var 5)) (me_op o_mul (me_var 6) (me_var 6))) ma_nil))) (mss_cons (ms_set (i := 2) sc_law_length.nd (me_op o_add (me_var 2) (me_var 7))) (mss_one (ms_set (i := 3) sc_law_length.nd (me_and (me_var 3) (me_one (me_cmp (o_eq hr.units) (me_op o_mul (me_var 7) (me_var 7)) (me_op o_add (me_op o_mul (me_var 5) (me_var 5)) (me_op o_mul (me_var 6) (me_var 6))) (nomark _))))))))))) (mss_one (ms_ret (me_frz (mf_disp (ma_cons (me_var 2) (ma_cons (me_var 3) ma_nil)))))))))
theorem ok_root (T : Txt K mg base) : FnOk P w K mg base CX0 1 T.a_root T.d_root ["number"] (spM 1 K m_root) := fnD_ok T.f_root sc_root rfl rfl fun A outer s H Ee hr =>
  (mss_cons (ms_set (i := 1) sc_root.nd me_int) (mss_cons (ms_set (i := 2) sc_root.nd me_int) (mss_cons (ms_whl PassesOwn.never (mt_cmp o_le (me_op o_mul (me_var 2) (me_var 2)) (me_var 0) (nomark _)) (mss_one (ms_aug (i := 2) sc_root.nd i_mul me_int))) (mss_cons (ms_whl PassesOwn.never (mt_cmp o_gt (me_op o_sub (me_var 2) (me_var 1)) me_int (nomark _)) (mss_cons (ms_set (i := 3) sc_root.nd (me_op o_div (me_op o_add (me_var 1) (me_var 2)) me_int)) (mss_one (ms_if (mt_cmp o_le (me_op o_mul (me_var 3) (me_var 3)) (me_var 0) (nomark _)) (mss_one (ms_set (i := 1) sc_root.nd (me_var 3))) (mss_one (ms_set (i := 2) sc_root.nd (me_var 3))))))) (mss_one (ms_ret (me_var 1)))))))
theorem ok_length_bounds (T : Txt K mg base) : FnOk P w K mg base CX0 2 T.a_length_bounds T.d_length_bounds ["points", "scale"] (spM 2 K m_length_bounds) := fnD_ok T.f_length_bounds sc_length_bounds rfl rfl fun A outer s H Ee hr =>
  (mss_cons (ms_set (i := 2) sc_length_bounds.nd me_int) (mss_cons (ms_set (i := 3) sc_length_bounds.nd me_int) (mss_cons (ms_for PassesOwn.never rfl (mi_rng1 (by rfl) T.n_range (me_op o_sub (me_blt1 f_len (by rfl) T.n_len (by decide +kernel) (me_var 0)) me_int)) rng1_noOwn (mg_nm (i := 4) sc_length_bounds.nd) (mss_cons (ms_set (i := 5) sc_length_bounds.nd (me_op o_mul (me_op o_mul (me_call (ok_distance T) (hr.mono (by decide)) (by rfl) T.m_distance T.f_distance.kp T.b_distance (ma_cons (me_ix (me_var 0) (me_var 4)) (ma_cons (me_ix (me_var 0) (me_op o_add (me_var 4) me_int)) ma_nil))) (me_var 1)) (me_var 1))) (mss_cons (ms_set (i := 6) sc_length_bounds.nd (me_call (ok_root T) (hr.mono (by decide)) (by rfl) T.m_root T.f_root.kp T.b_root (ma_cons (me_var 5) ma_nil))) (mss_cons (ms_aug (i := 2) sc_length_bounds.nd i_add (me_var 6)) (mss_one (ms_aug (i := 3) sc_length_bounds.nd i_add (me_ite (mt_cmp (o_eq hr.units) (me_op o_mul (me_var 6) (me_var 6)) (me_var 5) (nomark _)) (me_var 6) (me_op o_add (me_var 6) me_int)))))))) (mss_one (ms_ret (me_tup (ma_cons (me_var 2) (ma_cons (me_var 3) ma_nil))))))))
theorem ok_law (T : Txt K mg base) : FnOk P w K mg base CX0 5 T.a_law T.d_law ["_law_script"] (spM 1 K m_law) := fnD_ok T.f_law sc_law rfl rfl fun A outer s H Ee hr =>
  (mss_cons (ms_set (i := 1) sc_law.nd (me_call (ok_law_state T) (hr.mono (by decide)) (by rfl) T.m_law_state T.f_law_state.kp T.b_law_state (ma_cons (me_var 0) ma_nil))) (mss_cons (ms_asg (me_call (ok_law_corridor T) (hr.mono (by decide)) (by rfl) T.m_law_corridor T.f_law_corridor.kp T.b_law_corridor (ma_cons (me_var 1) (ma_cons me_int ma_nil))) (mg_tl rfl (mgs_cons (mg_nm (i := 2) sc_law.nd) (mgs_cons (mg_nm (i := 3) sc_law.nd) (mgs_cons (mg_nm (i := 4) sc_law.nd) mgs_nil))))) (mss_cons (ms_asg (me_call (ok_taut T) (hr.mono (by decide)) (by rfl) T.m_taut T.f_taut.kp T.b_taut (ma_cons (me_var 2) (ma_cons (me_var 3) (ma_cons (me_var 4) ma_nil)))) (mg_tp rfl (mgs_cons (mg_nm (i := 5) sc_law.nd) (mgs_cons (mg_nm (i := 6) sc_law.nd) mgs_nil)))) (mss_cons (ms_set (i := 7) sc_law.nd me_int) (mss_cons (ms_set (i := 8) sc_law.nd (me_ix (me_call (ok_law_length T) (hr.mono (by decide)) (by rfl) T.m_law_length T.f_law_length.kp T.b_law_length (ma_cons (me_var 5) (ma_cons (me_op o_mul me_int (me_var 7)) ma_nil))) me_int)) (mss_cons (ms_for PassesOwn.never rfl (mi_seq (me_call (ok_law_strings T) (hr.mono (by decide)) (by rfl) T.m_law_strings T.f_law_strings.kp T.b_law_strings (ma_cons (me_var 1) (ma_cons (me_var 2) (ma_cons (me_var 3) (ma_cons (me_var 4) ma_nil)))))) seq_noOwn (mg_nm (i := 9) sc_law.nd) (mss_one (ms_if (mt_cmp o_lt (me_op o_add (me_ix (me_call (ok_law_length T) (hr.mono (by decide)) (by rfl) T.m_law_length T.f_law_length.kp T.b_law_length (ma_cons (me_var 9) (ma_cons (me_var 7) ma_nil))) me_int) (me_blt1 f_len (by rfl) T.n_len (by decide +kernel) (me_var 9))) (me_var 8) (nomark _)) (mss_one (ms_ret me_bl)) mss_nil))) (mss_cons (ms_for PassesOwn.never rfl (mi_seq (me_frz (mf_disp (ma_cons me_int (ma_cons me_int (ma_cons (me_op o_add me_int (me_call (ok_law_draw T) (hr.mono (by decide)) (by rfl) T.m_law_draw T.f_law_draw.kp T.b_law_draw (ma_cons (me_var 1) (ma_cons me_int ma_nil)))) ma_nil)))))) seq_noOwn (mg_nm (i := 7) sc_law.nd) (mss_cons (ms_set (i := 10) sc_law.nd (me_call (ok_length_bounds T) (hr.mono (by decide)) (by rfl) T.m_length_bounds T.f_length_bounds.kp T.b_length_bounds (ma_cons (me_var 5) (ma_cons (me_var 7) ma_nil)))) (mss_cons (ms_set (i := 11) sc_law.nd (me_ix (me_call (ok_law_length T) (hr.mono (by decide)) (by rfl) T.m_law_length T.f_law_length.kp T.b_law_length (ma_cons (me_var 5) (ma_cons (me_var 7) ma_nil))) me_int)) (mss_cons (ms_frzLc (i := 12) [13] (own := [("_law_k", 13)]) rfl sc_law.nd rfl rfl (sw_true rfl rfl rfl (by decide +kernel)) (mi_rng1 (by rfl) T.n_range (me_op o_sub (me_blt1 f_len (by rfl) T.n_len (by decide +kernel) (me_var 5)) me_int)) (blkOk_by (by kernel_rfl)) rfl (fun _ _ _ _ _ => (mg_nm (i := 13) sc_law.nd)) (fun _ _ _ _ _ => mts_nil) (fun _ _ _ _ _ => (me_call (ok_law_length T) (hr.mono (by decide)) (by rfl) T.m_law_length T.f_law_length.kp T.b_law_length (ma_cons (me_frz (mf_slice (me_var 5) (mo_some (me_var 13)) (mo_some (me_op o_add (me_var 13) me_int)))) (ma_cons (me_var 7) ma_nil)))) (by decide)) (mss_cons (ms_set (i := 14) sc_law.nd (me_op o_add (me_var 11) (me_blt1 f_len (by rfl) T.n_len (by decide +kernel) (me_frz (mf_lc [15] (own := [("_law_part", 15)]) rfl sc_law.nd (mi_seqC (me_var 12)) (blkOk_by (by kernel_rfl)) rfl (fun _ _ _ _ _ => (mg_nm (i := 15) sc_law.nd)) (fun _ _ _ _ _ => (mts_one (mt_not (mt_tru (me_ix (me_var 15) me_int))))) (fun _ _ _ _ _ => (me_var 15)) (by decide)))))) (mss_one (ms_if (PW.pt (mw_or (mt_not (mt_tru (me_isi (by rfl) T.n_isinstance (by rfl) T.n_tuple (by decide +kernel) (me_var 10)))) (mw_or1 (mt_cmp (o_ne hr.units) (me_var 10) (me_tup (ma_cons (me_var 11) (ma_cons (me_var 14) ma_nil))) (nomark _))))) (mss_one (ms_ret me_bl)) mss_nil))))))) (mss_one (ms_ret me_bl)))))))))
end
set_option maxHeartbeats 0 in
theorem facts {P : Program} {w : World} {K : PySem.W.Frag} {h : Heap} {mg : Str → Option Value} {f : Addr} (X : K.In h) (G : h.Ns mainGlobals mg) (hfa : mg "law" = some (.ref f)) (c : He.SaysX fa_ fn_ [] (tf_.map Prod.fst) ex_ w h K) :
    ∃ (K : PySem.W.Frag) (fd : FuncData) (cs : List Cs) (cl : List (Str × Addr)), K.In h ∧ CsOk K h cs ∧ (∀ (s : Shared) (u : Value), BindsTo s fd ⟨[u], []⟩ [("_law_script", u)]) ∧ ∀ base : Heap, K.In base → base.Ns mainGlobals mg → (∀ z ∈ cs, LamX.TabB base mg z.c z.p) → GOk P w K mg base 5 f fd ["_law_script"] (spM 1 ⟨K, ⟨tbs cs, cl⟩⟩ m_law) := by
  have cd := c.t.d
  obtain ⟨fd0, F0⟩ := cd.def_ 0 (d := D_law_state) rfl
  obtain ⟨fd1, F1⟩ := cd.def_ 1 (d := D_law_draw) rfl
  obtain ⟨fd2, F2⟩ := cd.def_ 2 (d := D_law_side) rfl
  obtain ⟨fd3, F3⟩ := cd.def_ 3 (d := D_law_pick) rfl
  obtain ⟨fd4, F4⟩ := cd.def_ 4 (d := D_law_point) rfl
  obtain ⟨fd5, F5⟩ := cd.def_ 5 (d := D_law_next) rfl
  obtain ⟨fd6, F6⟩ := cd.def_ 6 (d := D_law_corridor) rfl
  obtain ⟨fd7, F7⟩ := cd.def_ 7 (d := D_Funnel___init__) rfl
  obtain ⟨fd8, F8⟩ := cd.def_ 8 (d := D_cross) rfl
  obtain ⟨fd9, F9⟩ := cd.def_ 9 (d := D_Funnel_misses) rfl
  obtain ⟨fd10, F10⟩ := cd.def_ 10 (d := D_Funnel_narrow) rfl
  obtain ⟨fd11, F11⟩ := cd.def_ 11 (d := D_distance) rfl
  obtain ⟨fd12, F12⟩ := cd.def_ 12 (d := D_nearer) rfl
  obtain ⟨fd13, F13⟩ := cd.def_ 13 (d := D_on_gate) rfl
  obtain ⟨fd14, F14⟩ := cd.def_ 14 (d := D_next_bend) rfl
  obtain ⟨fd15, F15⟩ := cd.def_ 15 (d := D_is_straight) rfl
  obtain ⟨fd16, F16⟩ := cd.def_ 16 (d := D_without_straight) rfl
  obtain ⟨fd17, F17⟩ := cd.def_ 17 (d := D_taut) rfl
  obtain ⟨fd18, F18⟩ := cd.def_ 18 (d := D_law_on) rfl
  obtain ⟨fd19, F19⟩ := cd.def_ 19 (d := D_law_strings) rfl
  obtain ⟨fd20, F20⟩ := cd.def_ 20 (d := D_law_root) rfl
  obtain ⟨fd21, F21⟩ := cd.def_ 21 (d := D_law_length) rfl
  obtain ⟨fd22, F22⟩ := cd.def_ 22 (d := D_root) rfl
  obtain ⟨fd23, F23⟩ := cd.def_ 23 (d := D_length_bounds) rfl
  obtain ⟨fd24, F24⟩ := cd.def_ 24 (d := D_law) rfl
  have e := hfa.symm.trans (He.glo_ok X G (cd.fact 21 (f := .glo "law") rfl))
  cases e
  have hb := F24.bindsA (ps := ["_law_script"]) fun _ _ _ _ _ _ us hl => match us, hl with | [_], _ => rfl
  refine ⟨K, fd24, csD K tf_, [("Funnel", He.ga K "Funnel")], X, csD_ok X c ?_, fun s v => hb s [v] rfl, fun base _ _ hT => ?_⟩
  · intro z hz y hy e
    have h1 := List.all_eq_true.mp (List.all_eq_true.mp c.more z hz) y hy
    rw [Bool.or_eq_true] at h1
    rcases h1 with h1 | h1
    · rw [decide_eq_true e] at h1
      cases h1
    · exact of_decide_eq_true h1
  let T : Txt ⟨K, ⟨tbs (csD K tf_), [("Funnel", He.ga K "Funnel")]⟩⟩ mg base := {
    a_law_state := _, d_law_state := _, f_law_state := F0,
    m_law_state := He.glo_ok X G (cd.fact 0 (f := .glo "_law_state") rfl),
    b_law_state := F0.bindsN (ps := ["_law_script"]) fun _ _ _ _ _ _ us hl => match us, hl with | [_], _ => rfl,
    a_law_draw := _, d_law_draw := _, f_law_draw := F1,
    m_law_draw := He.glo_ok X G (cd.fact 1 (f := .glo "_law_draw") rfl),
    b_law_draw := F1.bindsN (ps := ["_law_state_here", "_law_many"]) fun _ _ _ _ _ _ us hl => match us, hl with | [_, _], _ => rfl,
    a_law_side := _, d_law_side := _, f_law_side := F2,
    m_law_side := He.glo_ok X G (cd.fact 2 (f := .glo "_law_side") rfl),
    b_law_side := F2.bindsN (ps := ["_law_state_here", "_law_rect", "_law_side_here", "_law_used"]) fun _ _ _ _ _ _ us hl => match us, hl with | [_, _, _, _], _ => rfl,
    a_law_pick := _, d_law_pick := _, f_law_pick := F3,
    m_law_pick := He.glo_ok X G (cd.fact 3 (f := .glo "_law_pick") rfl),
    b_law_pick := F3.bindsN (ps := ["_law_state_here", "_law_row"]) fun _ _ _ _ _ _ us hl => match us, hl with | [_, _], _ => rfl,
    a_law_point := _, d_law_point := _, f_law_point := F4,
    m_law_point := He.glo_ok X G (cd.fact 4 (f := .glo "_law_point") rfl),
    b_law_point := F4.bindsN (ps := ["_law_state_here", "_law_rect", "_law_ends"]) fun _ _ _ _ _ _ us hl => match us, hl with | [_, _, _], _ => rfl,
    a_law_next := _, d_law_next := _, f_law_next := F5,
    m_law_next := He.glo_ok X G (cd.fact 5 (f := .glo "_law_next") rfl),
    b_law_next := F5.bindsN (ps := ["_law_state_here", "_law_rect", "_law_side_here", "_law_a", "_law_b"]) fun _ _ _ _ _ _ us hl => match us, hl with | [_, _, _, _, _], _ => rfl,
    a_law_corridor := _, d_law_corridor := _, f_law_corridor := F6,
    m_law_corridor := He.glo_ok X G (cd.fact 6 (f := .glo "_law_corridor") rfl),
    b_law_corridor := F6.bindsN (ps := ["_law_state_here", "_law_most"]) fun _ _ _ _ _ _ us hl => match us, hl with | [_, _], _ => rfl,
    a_Funnel___init__ := _, d_Funnel___init__ := _, f_Funnel___init__ := F7,
    b_Funnel___init__ := F7.bindsN (ps := ["self", "apex"]) fun _ _ _ _ _ _ us hl => match us, hl with | [_, _], _ => rfl,
    a_cross := _, d_cross := _, f_cross := F8,
    m_cross := He.glo_ok X G (cd.fact 7 (f := .glo "cross") rfl),
    b_cross := F8.bindsN (ps := ["a", "b", "c"]) fun _ _ _ _ _ _ us hl => match us, hl with | [_, _, _], _ => rfl,
    a_Funnel_misses := _, d_Funnel_misses := _, f_Funnel_misses := F9,
    b_Funnel_misses := F9.bindsN (ps := ["self", "left", "right"]) fun _ _ _ _ _ _ us hl => match us, hl with | [_, _, _], _ => rfl,
    a_Funnel_narrow := _, d_Funnel_narrow := _, f_Funnel_narrow := F10,
    b_Funnel_narrow := F10.bindsN (ps := ["self", "ends", "at"]) fun _ _ _ _ _ _ us hl => match us, hl with | [_, _, _], _ => rfl,
    a_distance := _, d_distance := _, f_distance := F11,
    m_distance := He.glo_ok X G (cd.fact 8 (f := .glo "distance") rfl),
    b_distance := F11.bindsN (ps := ["a", "b"]) fun _ _ _ _ _ _ us hl => match us, hl with | [_, _], _ => rfl,
    a_nearer := _, d_nearer := _, f_nearer := F12,
    m_nearer := He.glo_ok X G (cd.fact 9 (f := .glo "nearer") rfl),
    b_nearer := F12.bindsN (ps := ["ends", "point"]) fun _ _ _ _ _ _ us hl => match us, hl with | [_, _], _ => rfl,
    a_on_gate := _, d_on_gate := _, f_on_gate := F13,
    m_on_gate := He.glo_ok X G (cd.fact 10 (f := .glo "on_gate") rfl),
    b_on_gate := F13.bindsN (ps := ["ends", "point"]) fun _ _ _ _ _ _ us hl => match us, hl with | [_, _], _ => rfl,
    a_next_bend := _, d_next_bend := _, f_next_bend := F14,
    m_next_bend := He.glo_ok X G (cd.fact 11 (f := .glo "next_bend") rfl),
    b_next_bend := F14.bindsN (ps := ["apex", "gates", "first", "end"]) fun _ _ _ _ _ _ us hl => match us, hl with | [_, _, _, _], _ => rfl,
    a_is_straight := _, d_is_straight := _, f_is_straight := F15,
    m_is_straight := He.glo_ok X G (cd.fact 12 (f := .glo "is_straight") rfl),
    b_is_straight := F15.bindsN (ps := ["a", "b", "c"]) fun _ _ _ _ _ _ us hl => match us, hl with | [_, _, _], _ => rfl,
    a_without_straight := _, d_without_straight := _, f_without_straight := F16,
    m_without_straight := He.glo_ok X G (cd.fact 13 (f := .glo "without_straight") rfl),
    b_without_straight := F16.bindsN (ps := ["points", "bends"]) fun _ _ _ _ _ _ us hl => match us, hl with | [_, _], _ => rfl,
    a_taut := _, d_taut := _, f_taut := F17,
    m_taut := He.glo_ok X G (cd.fact 14 (f := .glo "taut") rfl),
    b_taut := F17.bindsN (ps := ["start", "gates", "end"]) fun _ _ _ _ _ _ us hl => match us, hl with | [_, _, _], _ => rfl,
    a_law_on := _, d_law_on := _, f_law_on := F18,
    m_law_on := He.glo_ok X G (cd.fact 15 (f := .glo "_law_on") rfl),
    b_law_on := F18.bindsN (ps := ["_law_ends", "_law_scale"]) fun _ _ _ _ _ _ us hl => match us, hl with | [_, _], _ => rfl,
    a_law_strings := _, d_law_strings := _, f_law_strings := F19,
    m_law_strings := He.glo_ok X G (cd.fact 16 (f := .glo "_law_strings") rfl),
    b_law_strings := F19.bindsN (ps := ["_law_state_here", "_law_start", "_law_gates", "_law_end"]) fun _ _ _ _ _ _ us hl => match us, hl with | [_, _, _, _], _ => rfl,
    a_law_root := _, d_law_root := _, f_law_root := F20,
    m_law_root := He.glo_ok X G (cd.fact 17 (f := .glo "_law_root") rfl),
    b_law_root := F20.bindsN (ps := ["_law_number"]) fun _ _ _ _ _ _ us hl => match us, hl with | [_], _ => rfl,
    a_law_length := _, d_law_length := _, f_law_length := F21,
    m_law_length := He.glo_ok X G (cd.fact 18 (f := .glo "_law_length") rfl),
    b_law_length := F21.bindsN (ps := ["_law_points", "_law_scale"]) fun _ _ _ _ _ _ us hl => match us, hl with | [_, _], _ => rfl,
    a_root := _, d_root := _, f_root := F22,
    m_root := He.glo_ok X G (cd.fact 19 (f := .glo "root") rfl),
    b_root := F22.bindsN (ps := ["number"]) fun _ _ _ _ _ _ us hl => match us, hl with | [_], _ => rfl,
    a_length_bounds := _, d_length_bounds := _, f_length_bounds := F23,
    m_length_bounds := He.glo_ok X G (cd.fact 20 (f := .glo "length_bounds") rfl),
    b_length_bounds := F23.bindsN (ps := ["points", "scale"]) fun _ _ _ _ _ _ us hl => match us, hl with | [_, _], _ => rfl,
    a_law := _, d_law := _, f_law := F24,
    m_law := He.glo_ok X G (cd.fact 21 (f := .glo "law") rfl),
    b_law := F24.bindsN (ps := ["_law_script"]) fun _ _ _ _ _ _ us hl => match us, hl with | [_], _ => rfl,
    C_Funnel := He.ga K "Funnel", ti_Funnel := List.mem_of_getElem? (i := 0) rfl, tc_Funnel := (by intro q hq e; simp only [List.mem_cons, List.not_mem_nil, or_false] at hq; rcases hq with rfl; all_goals first | rfl | (dsimp only at e; exact absurd e (by decide +kernel))), cl_Funnel := He.cls_ok (cd.fact 30 (f := .cls "Funnel") rfl),
    na_Funnel_apex := He.noat_ok (cd.fact 31 (f := .noat "Funnel" "apex") rfl),
    na_Funnel_left := He.noat_ok (cd.fact 32 (f := .noat "Funnel" "left") rfl),
    na_Funnel_right := He.noat_ok (cd.fact 33 (f := .noat "Funnel" "right") rfl),
    me_Funnel_misses := He.meth_ok (cd.fact 34 (f := .meth "Funnel" "misses") rfl),
    me_Funnel_narrow := He.meth_ok (cd.fact 35 (f := .meth "Funnel" "narrow") rfl),
    mk_Funnel := He.mkr_ok (cd.fact 36 (f := .mkr "Funnel") rfl), g_Funnel := He.glo_ok X G (cd.fact 29 (f := .glo "Funnel") rfl),
    n_abs := He.free_ok X G (cd.fact 22 (f := .free "abs") rfl),
    n_int := He.free_ok X G (cd.fact 23 (f := .free "int") rfl),
    n_isinstance := He.free_ok X G (cd.fact 24 (f := .free "isinstance") rfl),
    n_len := He.free_ok X G (cd.fact 25 (f := .free "len") rfl),
    n_max := He.free_ok X G (cd.fact 26 (f := .free "max") rfl),
    n_range := He.free_ok X G (cd.fact 27 (f := .free "range") rfl),
    n_tuple := He.free_ok X G (cd.fact 28 (f := .free "tuple") rfl) }
  exact FnOk.g (ok_law T)
end W
set_option Elab.async false
set_option linter.all false
set_option maxRecDepth 100000
set_option maxHeartbeats 1000000
set_option synthInstance.maxSize 2000
namespace W
open PySem L2 Mi
theorem q_law_draw {s : DS} {many : Int} (tl : List D) {r : Int × DS} (hr : Pl.draw s many = some r) : m_law_draw [.ref 1, .int many] (stT s tl) = some (.int r.1, stT r.2 tl) := Dr.q_draw tl hr
def p_law_side (v_rect : (Int × Int × Int × Int)) (v_side_here : Int) (v_used : (Option (Int × Int × Int))) (s : DS) : Option ((Option (Int × Int)) × DS) :=
  (Pl.mod v_side_here (2 : Int)).bind fun t1 =>
  (Pl.at_ [(v_rect.2.1, v_rect.2.2.2), (v_rect.1, v_rect.2.2.1)] t1).bind fun t2 =>
  (Pl.draw s ((t2.2 - t2.1) - (2 : Int))).bind fun t3 =>
  (some ((t2.1 + t3.1))).bind fun v_a4 =>
  (Pl.draw t3.2 ((t2.2 - v_a4) - (2 : Int))).bind fun t5 =>
  (some (((v_a4 + (3 : Int)) + t5.1))).bind fun v_b6 =>
  (Pl.andO v_used.isSome ((v_used).bind fun t7 => (Pl.andO (decide (t7.1 = v_side_here)) ((v_used).bind fun t8 => (Pl.andO (decide (v_a4 < t8.2.2)) ((v_used).bind fun t9 => some (decide (t9.2.1 < v_b6)))).bind fun t10 => some t10)).bind fun t11 => some t11)).bind fun t12 =>
  (if t12 = true then
  some (none, t5.2)
  else
  some ((some (v_a4, v_b6)), t5.2))
theorem q_law_side {v_rect : (Int × Int × Int × Int)} {v_side_here : Int} {v_used : (Option (Int × Int × Int))} {s : DS} (tl : List D) {r : ((Option (Int × Int)) × DS)} (hr : p_law_side v_rect v_side_here v_used s = some r) : m_law_side [.ref 1, (e4 eI eI eI eI) v_rect, eI v_side_here, (eO (e3 eI eI eI)) v_used] (stT s tl) = some ((eO (e2 eI eI)) r.1, stT r.2 tl) := by
  refine Rf.fn (o := p_law_side v_rect v_side_here v_used s) (e := (fun r : ((Option (Int × Int)) × DS) => (eO (e2 eI eI)) r.1)) (hp := (fun r : ((Option (Int × Int)) × DS) => stT r.2 tl)) (s := [.val (.ref 1), .val ((e4 eI eI eI eI) v_rect), .val (eI v_side_here), .val ((eO (e3 eI eI eI)) v_used), .no, .no, .no, .no, .no, .no, .no, .no]) rfl rfl ?_ hr
  unfold p_law_side b_law_side
  refine Rf.asg0 (d := (e4 eI eI eI eI) v_rect) (ev_var rfl) rfl (gr_tp (gr_cons (gr_nm (sl_s (sl_s (sl_s (sl_s sl_z))))) (gr_cons (gr_nm (sl_s (sl_s (sl_s (sl_s (sl_s sl_z)))))) (gr_cons (gr_nm (sl_s (sl_s (sl_s (sl_s (sl_s (sl_s sl_z))))))) (gr_cons (gr_nm (sl_s (sl_s (sl_s (sl_s (sl_s (sl_s (sl_s sl_z)))))))) gr_nil))))) ?_
  refine Rf.bd fun t1 h_t1 => ?_
  refine Rf.bd fun t2 h_t2 => ?_
  refine Rf.asg0 (d := (e2 eI eI) t2) (ev_ixP (e := (e2 eI eI)) (ev_frz (ev_disp (ev_args (ev_tup (ev_args (ev_var rfl) (ev_args (ev_var rfl) ev_args0 rfl) rfl)) (ev_args (ev_tup (ev_args (ev_var rfl) (ev_args (ev_var rfl) ev_args0 rfl) rfl)) ev_args0 rfl) rfl))) (ev_modP (ev_blt1 (ev_var rfl) lf_int1) ev_c h_t1) rfl h_t2) rfl (gr_tp (gr_cons (gr_nm (sl_s (sl_s (sl_s (sl_s (sl_s (sl_s (sl_s (sl_s sl_z))))))))) (gr_cons (gr_nm (sl_s (sl_s (sl_s (sl_s (sl_s (sl_s (sl_s (sl_s (sl_s sl_z)))))))))) gr_nil))) ?_
  refine Rf.bd fun t3 h_t3 => ?_
  refine Rf.setT (t := (t2.1 + t3.1)) eI (ev_add (ev_var rfl) (ev_call (ev_args (ev_var rfl) (ev_args (ev_sub (ev_sub (ev_var rfl) (ev_var rfl)) ev_c) ev_args0 rfl) rfl) (q_law_draw tl h_t3))) (fun _ => rfl) (fun _ => (sl_s (sl_s (sl_s (sl_s (sl_s (sl_s (sl_s (sl_s (sl_s (sl_s sl_z))))))))))) fun v_a4 => ?_
  refine Rf.bd fun t5 h_t5 => ?_
  refine Rf.setT (t := ((v_a4 + (3 : Int)) + t5.1)) eI (ev_add (ev_add (ev_var rfl) ev_c) (ev_call (ev_args (ev_var rfl) (ev_args (ev_sub (ev_sub (ev_var rfl) (ev_var rfl)) ev_c) ev_args0 rfl) rfl) (q_law_draw tl h_t5))) (fun _ => rfl) (fun _ => (sl_s (sl_s (sl_s (sl_s (sl_s (sl_s (sl_s (sl_s (sl_s (sl_s (sl_s sl_z)))))))))))) fun v_b6 => ?_
  refine Rf.bd fun t12 h_t12 => ?_
  refine Rf.ite (tt_andO (tv (ev_notN (ev_var rfl) (notNonE (fun _ => rfl) _))) (fun q hq => by obtain ⟨t7, h_t7, hq⟩ := bI hq; obtain ⟨t11, h_t11, hq⟩ := bI hq; cases hq; exact (tt_andO (tv (ev_eqI (ev_ix (ev_unO (ev_var rfl) h_t7) ev_c rfl rfl) (ev_var rfl))) (fun q hq => by obtain ⟨t8, h_t8, hq⟩ := bI hq; obtain ⟨t10, h_t10, hq⟩ := bI hq; cases hq; exact (tt_andO (tv (ev_lt (ev_var rfl) (ev_ix (ev_unO (ev_var rfl) h_t8) ev_c rfl rfl))) (fun q hq => by obtain ⟨t9, h_t9, hq⟩ := bI hq; cases hq; exact (tv (ev_lt (ev_ix (ev_unO (ev_var rfl) h_t9) ev_c rfl rfl) (ev_var rfl)))) h_t10)) h_t11)) h_t12) ?_ ?_
  · exact Rf.ret ev_c (by first | rfl | exact pureO (fun _ => rfl) _) ⟨.inl rfl, rfl⟩
  · refine Rf.skip ?_
    refine Rf.last ?_
    exact Rf.ret (ev_tup (ev_args (ev_var rfl) (ev_args (ev_var rfl) ev_args0 rfl) rfl)) (by first | rfl | exact pureO (fun _ => rfl) _) ⟨.inl rfl, rfl⟩
def p_law_pick (v_row : (List Int)) (s : DS) : Option (Int × DS) :=
  (Pl.draw s (v_row.length : Int)).bind fun t1 =>
  (Pl.at_ v_row t1.1).bind fun t2 =>
  some (t2, t1.2)
theorem q_law_pick {v_row : (List Int)} {s : DS} (tl : List D) {r : (Int × DS)} (hr : p_law_pick v_row s = some r) : m_law_pick [.ref 1, (eL eI) v_row] (stT s tl) = some (eI r.1, stT r.2 tl) := by
  refine Rf.fn (o := p_law_pick v_row s) (e := (fun r : (Int × DS) => eI r.1)) (hp := (fun r : (Int × DS) => stT r.2 tl)) (s := [.val (.ref 1), .val ((eL eI) v_row)]) rfl rfl ?_ hr
  unfold p_law_pick b_law_pick
  refine Rf.last ?_
  refine Rf.bd fun t1 h_t1 => ?_
  refine Rf.bd fun t2 h_t2 => ?_
  exact Rf.ret (ev_ixP (e := eI) (ev_var rfl) (ev_call (ev_args (ev_var rfl) (ev_args (ev_blt1 (ev_var rfl) (F_lenM (e := eI) rfl)) ev_args0 rfl) rfl) (q_law_draw tl h_t1)) rfl h_t2) rfl ⟨.inl rfl, rfl⟩
def p_law_pick_v1 (v_row : (List (Int × Int))) (s : DS) : Option ((Int × Int) × DS) :=
  (Pl.draw s (v_row.length : Int)).bind fun t1 =>
  (Pl.at_ v_row t1.1).bind fun t2 =>
  some (t2, t1.2)
theorem q_law_pick_v1 {v_row : (List (Int × Int))} {s : DS} (tl : List D) {r : ((Int × Int) × DS)} (hr : p_law_pick_v1 v_row s = some r) : m_law_pick [.ref 1, (eU (e2 eI eI)) v_row] (stT s tl) = some ((e2 eI eI) r.1, stT r.2 tl) := by
  refine Rf.fn (o := p_law_pick_v1 v_row s) (e := (fun r : ((Int × Int) × DS) => (e2 eI eI) r.1)) (hp := (fun r : ((Int × Int) × DS) => stT r.2 tl)) (s := [.val (.ref 1), .val ((eU (e2 eI eI)) v_row)]) rfl rfl ?_ hr
  unfold p_law_pick_v1 b_law_pick
  refine Rf.last ?_
  refine Rf.bd fun t1 h_t1 => ?_
  refine Rf.bd fun t2 h_t2 => ?_
  exact Rf.ret (ev_ixP (e := (e2 eI eI)) (ev_var rfl) (ev_call (ev_args (ev_var rfl) (ev_args (ev_blt1 (ev_var rfl) (F_lenM (e := (e2 eI eI)) rfl)) ev_args0 rfl) rfl) (q_law_draw tl h_t1)) rfl h_t2) rfl ⟨.inl rfl, rfl⟩
def p_law_pick_v2 (v_row : (List (Int × Int))) (s : DS) : Option ((Int × Int) × DS) :=
  (Pl.draw s (v_row.length : Int)).bind fun t1 =>
  (Pl.at_ v_row t1.1).bind fun t2 =>
  some (t2, t1.2)
theorem q_law_pick_v2 {v_row : (List (Int × Int))} {s : DS} (tl : List D) {r : ((Int × Int) × DS)} (hr : p_law_pick_v2 v_row s = some r) : m_law_pick [.ref 1, (eL (e2 eI eI)) v_row] (stT s tl) = some ((e2 eI eI) r.1, stT r.2 tl) := by
  refine Rf.fn (o := p_law_pick_v2 v_row s) (e := (fun r : ((Int × Int) × DS) => (e2 eI eI) r.1)) (hp := (fun r : ((Int × Int) × DS) => stT r.2 tl)) (s := [.val (.ref 1), .val ((eL (e2 eI eI)) v_row)]) rfl rfl ?_ hr
  unfold p_law_pick_v2 b_law_pick
  refine Rf.last ?_
  refine Rf.bd fun t1 h_t1 => ?_
  refine Rf.bd fun t2 h_t2 => ?_
  exact Rf.ret (ev_ixP (e := (e2 eI eI)) (ev_var rfl) (ev_call (ev_args (ev_var rfl) (ev_args (ev_blt1 (ev_var rfl) (F_lenM (e := (e2 eI eI)) rfl)) ev_args0 rfl) rfl) (q_law_draw tl h_t1)) rfl h_t2) rfl ⟨.inl rfl, rfl⟩
def p_law_point (v_rect : (Int × Int × Int × Int)) (v_ends : (Option ((Int × Int) × (Int × Int)))) (s : DS) : Option ((Int × Int) × DS) :=
  (Pl.draw s (5 : Int)).bind fun t1 =>
  (if ((decide (t1.1 = (0 : Int))) && v_ends.isSome) = true then
  (v_ends).bind fun t2 =>
  (p_law_pick_v1 [t2.1, t2.2] t1.2).bind fun t3 =>
  some (t3.1, t3.2)
  else
  (Pl.draw t1.2 ((v_rect.2.2.1 - v_rect.1) + (1 : Int))).bind fun t4 =>
  (p_law_pick [v_rect.1, v_rect.2.2.1, (v_rect.1 + t4.1)] t4.2).bind fun t5 =>
  (Pl.draw t5.2 ((v_rect.2.2.2 - v_rect.2.1) + (1 : Int))).bind fun t6 =>
  (p_law_pick [v_rect.2.1, v_rect.2.2.2, (v_rect.2.1 + t6.1)] t6.2).bind fun t7 =>
  (if (decide (t1.1 < (3 : Int))) = true then
  (Pl.draw t7.2 ((v_rect.2.2.1 - v_rect.1) + (1 : Int))).bind fun t8 =>
  (Pl.draw t8.2 ((v_rect.2.2.2 - v_rect.2.1) + (1 : Int))).bind fun t9 =>
  some (((v_rect.1 + t8.1), (v_rect.2.1 + t9.1)), t9.2)
  else
  some ((t5.1, t7.1), t7.2)))
theorem q_law_point {v_rect : (Int × Int × Int × Int)} {v_ends : (Option ((Int × Int) × (Int × Int)))} {s : DS} (tl : List D) {r : ((Int × Int) × DS)} (hr : p_law_point v_rect v_ends s = some r) : m_law_point [.ref 1, (e4 eI eI eI eI) v_rect, (eO (e2 (e2 eI eI) (e2 eI eI))) v_ends] (stT s tl) = some ((e2 eI eI) r.1, stT r.2 tl) := by
  refine Rf.fn (o := p_law_point v_rect v_ends s) (e := (fun r : ((Int × Int) × DS) => (e2 eI eI) r.1)) (hp := (fun r : ((Int × Int) × DS) => stT r.2 tl)) (s := [.val (.ref 1), .val ((e4 eI eI eI eI) v_rect), .val ((eO (e2 (e2 eI eI) (e2 eI eI))) v_ends), .no, .no, .no, .no, .no, .no, .no]) rfl rfl ?_ hr
  unfold p_law_point b_law_point
  refine Rf.asg0 (d := (e4 eI eI eI eI) v_rect) (ev_var rfl) rfl (gr_tp (gr_cons (gr_nm (sl_s (sl_s (sl_s sl_z)))) (gr_cons (gr_nm (sl_s (sl_s (sl_s (sl_s sl_z))))) (gr_cons (gr_nm (sl_s (sl_s (sl_s (sl_s (sl_s sl_z)))))) (gr_cons (gr_nm (sl_s (sl_s (sl_s (sl_s (sl_s (sl_s sl_z))))))) gr_nil))))) ?_
  refine Rf.bd fun t1 h_t1 => ?_
  refine Rf.set0 (d := eI t1.1) (ev_call (ev_args (ev_var rfl) (ev_args ev_c ev_args0 rfl) rfl) (q_law_draw tl h_t1)) rfl (sl_s (sl_s (sl_s (sl_s (sl_s (sl_s (sl_s sl_z))))))) ?_
  refine Rf.ite (tt_and (tv (ev_eqI (ev_var rfl) ev_c)) fun _ => (tv (ev_notN (ev_var rfl) (notNonE (fun _ => rfl) _)))) ?_ ?_
  · refine Rf.bd fun t2 h_t2 => ?_
    refine Rf.bd fun t3 h_t3 => ?_
    exact Rf.ret (ev_call (ev_args (ev_var rfl) (ev_args (ev_unO (ev_var rfl) h_t2) ev_args0 rfl) rfl) (q_law_pick_v1 tl h_t3)) rfl ⟨.inl rfl, rfl⟩
  · refine Rf.skip ?_
    refine Rf.bd fun t4 h_t4 => ?_
    refine Rf.bd fun t5 h_t5 => ?_
    refine Rf.set0 (d := eI t5.1) (ev_call (ev_args (ev_var rfl) (ev_args (ev_frz (ev_disp (ev_args (ev_var rfl) (ev_args (ev_var rfl) (ev_args (ev_add (ev_var rfl) (ev_call (ev_args (ev_var rfl) (ev_args (ev_add (ev_sub (ev_var rfl) (ev_var rfl)) ev_c) ev_args0 rfl) rfl) (q_law_draw tl h_t4))) ev_args0 rfl) rfl) rfl))) ev_args0 rfl) rfl) (q_law_pick tl h_t5)) rfl (sl_s (sl_s (sl_s (sl_s (sl_s (sl_s (sl_s (sl_s sl_z)))))))) ?_
    refine Rf.bd fun t6 h_t6 => ?_
    refine Rf.bd fun t7 h_t7 => ?_
    refine Rf.set0 (d := eI t7.1) (ev_call (ev_args (ev_var rfl) (ev_args (ev_frz (ev_disp (ev_args (ev_var rfl) (ev_args (ev_var rfl) (ev_args (ev_add (ev_var rfl) (ev_call (ev_args (ev_var rfl) (ev_args (ev_add (ev_sub (ev_var rfl) (ev_var rfl)) ev_c) ev_args0 rfl) rfl) (q_law_draw tl h_t6))) ev_args0 rfl) rfl) rfl))) ev_args0 rfl) rfl) (q_law_pick tl h_t7)) rfl (sl_s (sl_s (sl_s (sl_s (sl_s (sl_s (sl_s (sl_s (sl_s sl_z))))))))) ?_
    refine Rf.ite (tv (ev_lt (ev_var rfl) ev_c)) ?_ ?_
    · refine Rf.bd fun t8 h_t8 => ?_
      refine Rf.bd fun t9 h_t9 => ?_
      exact Rf.ret (ev_tup (ev_args (ev_add (ev_var rfl) (ev_call (ev_args (ev_var rfl) (ev_args (ev_add (ev_sub (ev_var rfl) (ev_var rfl)) ev_c) ev_args0 rfl) rfl) (q_law_draw tl h_t8))) (ev_args (ev_add (ev_var rfl) (ev_call (ev_args (ev_var rfl) (ev_args (ev_add (ev_sub (ev_var rfl) (ev_var rfl)) ev_c) ev_args0 rfl) rfl) (q_law_draw tl h_t9))) ev_args0 rfl) rfl)) rfl ⟨.inl rfl, rfl⟩
    · refine Rf.skip ?_
      refine Rf.last ?_
      exact Rf.ret (ev_tup (ev_args (ev_var rfl) (ev_args (ev_var rfl) ev_args0 rfl) rfl)) rfl ⟨.inl rfl, rfl⟩
def p_law_next (v_rect : (Int × Int × Int × Int)) (v_side_here : Int) (v_a : Int) (v_b : Int) (s : DS) : Option ((((Int × Int) × (Int × Int)) × (Int × Int × Int × Int)) × DS) :=
  (Pl.draw s (6 : Int)).bind fun t1 =>
  (some ((v_a - t1.1))).bind fun v_low2 =>
  (Pl.draw t1.2 (6 : Int)).bind fun t3 =>
  (some ((v_b + t3.1))).bind fun v_high4 =>
  (Pl.draw t3.2 (8 : Int)).bind fun t5 =>
  (some (((3 : Int) + t5.1))).bind fun v_deep6 =>
  (if (decide (v_side_here = (0 : Int))) = true then
  some ((((v_rect.2.2.1, (v_a + (1 : Int))), (v_rect.2.2.1, (v_b - (1 : Int)))), (v_rect.2.2.1, v_low2, (v_rect.2.2.1 + v_deep6), v_high4)), t5.2)
  else
  (if (decide (v_side_here = (1 : Int))) = true then
  some (((((v_b - (1 : Int)), v_rect.2.2.2), ((v_a + (1 : Int)), v_rect.2.2.2)), (v_low2, v_rect.2.2.2, v_high4, (v_rect.2.2.2 + v_deep6))), t5.2)
  else
  (if (decide (v_side_here = (2 : Int))) = true then
  some ((((v_rect.1, (v_b - (1 : Int))), (v_rect.1, (v_a + (1 : Int)))), ((v_rect.1 - v_deep6), v_low2, v_rect.1, v_high4)), t5.2)
  else
  some (((((v_a + (1 : Int)), v_rect.2.1), ((v_b - (1 : Int)), v_rect.2.1)), (v_low2, (v_rect.2.1 - v_deep6), v_high4, v_rect.2.1)), t5.2))))
theorem q_law_next {v_rect : (Int × Int × Int × Int)} {v_side_here : Int} {v_a : Int} {v_b : Int} {s : DS} (tl : List D) {r : ((((Int × Int) × (Int × Int)) × (Int × Int × Int × Int)) × DS)} (hr : p_law_next v_rect v_side_here v_a v_b s = some r) : m_law_next [.ref 1, (e4 eI eI eI eI) v_rect, eI v_side_here, eI v_a, eI v_b] (stT s tl) = some ((h2 (e2 (e2 eI eI) (e2 eI eI)) (e4 eI eI eI eI)) r.1, stT r.2 tl) := by
  refine Rf.fn (o := p_law_next v_rect v_side_here v_a v_b s) (e := (fun r : ((((Int × Int) × (Int × Int)) × (Int × Int × Int × Int)) × DS) => (h2 (e2 (e2 eI eI) (e2 eI eI)) (e4 eI eI eI eI)) r.1)) (hp := (fun r : ((((Int × Int) × (Int × Int)) × (Int × Int × Int × Int)) × DS) => stT r.2 tl)) (s := [.val (.ref 1), .val ((e4 eI eI eI eI) v_rect), .val (eI v_side_here), .val (eI v_a), .val (eI v_b), .no, .no, .no, .no, .no, .no, .no]) rfl rfl ?_ hr
  unfold p_law_next b_law_next
  refine Rf.asg0 (d := (e4 eI eI eI eI) v_rect) (ev_var rfl) rfl (gr_tp (gr_cons (gr_nm (sl_s (sl_s (sl_s (sl_s (sl_s sl_z)))))) (gr_cons (gr_nm (sl_s (sl_s (sl_s (sl_s (sl_s (sl_s sl_z))))))) (gr_cons (gr_nm (sl_s (sl_s (sl_s (sl_s (sl_s (sl_s (sl_s sl_z)))))))) (gr_cons (gr_nm (sl_s (sl_s (sl_s (sl_s (sl_s (sl_s (sl_s (sl_s sl_z))))))))) gr_nil))))) ?_
  refine Rf.bd fun t1 h_t1 => ?_
  refine Rf.setT (t := (v_a - t1.1)) eI (ev_sub (ev_var rfl) (ev_call (ev_args (ev_var rfl) (ev_args ev_c ev_args0 rfl) rfl) (q_law_draw tl h_t1))) (fun _ => rfl) (fun _ => (sl_s (sl_s (sl_s (sl_s (sl_s (sl_s (sl_s (sl_s (sl_s sl_z)))))))))) fun v_low2 => ?_
  refine Rf.bd fun t3 h_t3 => ?_
  refine Rf.setT (t := (v_b + t3.1)) eI (ev_add (ev_var rfl) (ev_call (ev_args (ev_var rfl) (ev_args ev_c ev_args0 rfl) rfl) (q_law_draw tl h_t3))) (fun _ => rfl) (fun _ => (sl_s (sl_s (sl_s (sl_s (sl_s (sl_s (sl_s (sl_s (sl_s (sl_s sl_z))))))))))) fun v_high4 => ?_
  refine Rf.bd fun t5 h_t5 => ?_
  refine Rf.setT (t := ((3 : Int) + t5.1)) eI (ev_add ev_c (ev_call (ev_args (ev_var rfl) (ev_args ev_c ev_args0 rfl) rfl) (q_law_draw tl h_t5))) (fun _ => rfl) (fun _ => (sl_s (sl_s (sl_s (sl_s (sl_s (sl_s (sl_s (sl_s (sl_s (sl_s (sl_s sl_z)))))))))))) fun v_deep6 => ?_
  refine Rf.ite (tv (ev_eqI (ev_var rfl) ev_c)) ?_ ?_
  · exact Rf.ret (ev_frz (ev_disp (ev_args (ev_tup (ev_args (ev_tup (ev_args (ev_var rfl) (ev_args (ev_add (ev_var rfl) ev_c) ev_args0 rfl) rfl)) (ev_args (ev_tup (ev_args (ev_var rfl) (ev_args (ev_sub (ev_var rfl) ev_c) ev_args0 rfl) rfl)) ev_args0 rfl) rfl)) (ev_args (ev_tup (ev_args (ev_var rfl) (ev_args (ev_var rfl) (ev_args (ev_add (ev_var rfl) (ev_var rfl)) (ev_args (ev_var rfl) ev_args0 rfl) rfl) rfl) rfl)) ev_args0 rfl) rfl))) rfl ⟨.inl rfl, rfl⟩
  · refine Rf.skip ?_
    refine Rf.ite (tv (ev_eqI (ev_var rfl) ev_c)) ?_ ?_
    · exact Rf.ret (ev_frz (ev_disp (ev_args (ev_tup (ev_args (ev_tup (ev_args (ev_sub (ev_var rfl) ev_c) (ev_args (ev_var rfl) ev_args0 rfl) rfl)) (ev_args (ev_tup (ev_args (ev_add (ev_var rfl) ev_c) (ev_args (ev_var rfl) ev_args0 rfl) rfl)) ev_args0 rfl) rfl)) (ev_args (ev_tup (ev_args (ev_var rfl) (ev_args (ev_var rfl) (ev_args (ev_var rfl) (ev_args (ev_add (ev_var rfl) (ev_var rfl)) ev_args0 rfl) rfl) rfl) rfl)) ev_args0 rfl) rfl))) rfl ⟨.inl rfl, rfl⟩
    · refine Rf.skip ?_
      refine Rf.ite (tv (ev_eqI (ev_var rfl) ev_c)) ?_ ?_
      · exact Rf.ret (ev_frz (ev_disp (ev_args (ev_tup (ev_args (ev_tup (ev_args (ev_var rfl) (ev_args (ev_sub (ev_var rfl) ev_c) ev_args0 rfl) rfl)) (ev_args (ev_tup (ev_args (ev_var rfl) (ev_args (ev_add (ev_var rfl) ev_c) ev_args0 rfl) rfl)) ev_args0 rfl) rfl)) (ev_args (ev_tup (ev_args (ev_sub (ev_var rfl) (ev_var rfl)) (ev_args (ev_var rfl) (ev_args (ev_var rfl) (ev_args (ev_var rfl) ev_args0 rfl) rfl) rfl) rfl)) ev_args0 rfl) rfl))) rfl ⟨.inl rfl, rfl⟩
      · refine Rf.skip ?_
        refine Rf.last ?_
        exact Rf.ret (ev_frz (ev_disp (ev_args (ev_tup (ev_args (ev_tup (ev_args (ev_add (ev_var rfl) ev_c) (ev_args (ev_var rfl) ev_args0 rfl) rfl)) (ev_args (ev_tup (ev_args (ev_sub (ev_var rfl) ev_c) (ev_args (ev_var rfl) ev_args0 rfl) rfl)) ev_args0 rfl) rfl)) (ev_args (ev_tup (ev_args (ev_var rfl) (ev_args (ev_sub (ev_var rfl) (ev_var rfl)) (ev_args (ev_var rfl) (ev_args (ev_var rfl) ev_args0 rfl) rfl) rfl) rfl)) ev_args0 rfl) rfl))) rfl ⟨.inl rfl, rfl⟩
def p_law_corridor (v_most : Int) (s : DS) : Option (((Int × Int) × (List ((Int × Int) × (Int × Int))) × (Int × Int)) × DS) :=
  (Pl.draw s (9 : Int)).bind fun t1 =>
  (Pl.draw t1.2 (9 : Int)).bind fun t2 =>
  (some (((0 : Int), (0 : Int), ((4 : Int) + t1.1), ((4 : Int) + t2.1)))).bind fun v_rect3 =>
  (Pl.draw t2.2 (4 : Int)).bind fun t4 =>
  (Pl.draw t4.2 (v_most + (1 : Int))).bind fun t5 =>
  (Pl.rngO 0 t5.1).bind fun t6 =>
  (Pl.forN (fun (x12 : Int) (s7 : (List ((Int × Int) × (Int × Int))) × (Option (Int × Int × Int)) × Int × (Int × Int × Int × Int) × DS) =>
  (p_law_pick [(0 : Int), (0 : Int), (1 : Int), (1 : Int), (3 : Int), (2 : Int)] s7.2.2.2.2).bind fun t13 =>
  (Pl.draw t13.2 (2 : Int)).bind fun t14 =>
  (Pl.mul (3 : Int) t14.1).bind fun t15 =>
  (Pl.mod ((s7.2.2.1 + t13.1) + t15) (4 : Int)).bind fun t16 =>
  (p_law_side s7.2.2.2.1 t16 s7.2.1 t14.2).bind fun t17 =>
  ((if t17.1.isSome = true then
  (t17.1).bind fun t20 =>
  (t17.1).bind fun t21 =>
  (p_law_next s7.2.2.2.1 t16 t20.1 t21.2 t17.2).bind fun t22 =>
  (Pl.app s7.1 t22.1.1).bind fun v_gates23 =>
  (Pl.mod (t16 + (2 : Int)) (4 : Int)).bind fun t24 =>
  (t17.1).bind fun t25 =>
  (t17.1).bind fun t26 =>
  (some ((some (t24, t25.1, t26.2)))).bind fun v_used27 =>
  some (t22.1.2, v_gates23, v_used27, t16, t22.2)
  else
  some (s7.2.2.2.1, s7.1, s7.2.1, s7.2.2.1, t17.2)) : Option ((Int × Int × Int × Int) × (List ((Int × Int) × (Int × Int))) × (Option (Int × Int × Int)) × Int × DS)).bind fun j18 =>
  some (j18.2.1, j18.2.2.1, j18.2.2.2.1, j18.1, j18.2.2.2.2)) t6 (([] : List ((Int × Int) × (Int × Int))), none, t4.1, v_rect3, t5.2)).bind fun (s7 : (List ((Int × Int) × (Int × Int))) × (Option (Int × Int × Int)) × Int × (Int × Int × Int × Int) × DS) =>
  (if (decide ((s7.1.length : Int) = (0 : Int))) = true then
  (p_law_point v_rect3 none s7.2.2.2.2).bind fun t28 =>
  (p_law_point v_rect3 none t28.2).bind fun t29 =>
  some ((t28.1, s7.1, t29.1), t29.2)
  else
  (Pl.at_ s7.1 (0 : Int)).bind fun t30 =>
  (p_law_point v_rect3 (some t30) s7.2.2.2.2).bind fun t31 =>
  (Pl.at_ s7.1 ((s7.1.length : Int) - (1 : Int))).bind fun t32 =>
  (p_law_point s7.2.2.2.1 (some t32) t31.2).bind fun t33 =>
  some ((t31.1, s7.1, t33.1), t33.2))
theorem q_law_corridor {v_most : Int} {s : DS} (tl : List D) {r : (((Int × Int) × (List ((Int × Int) × (Int × Int))) × (Int × Int)) × DS)} (hr : p_law_corridor v_most s = some r) : m_law_corridor [.ref 1, eI v_most] (stT s tl) = some ((h3 (e2 eI eI) (eL (e2 (e2 eI eI) (e2 eI eI))) (e2 eI eI)) r.1, stT r.2 tl) := by
  refine Rf.fn (o := p_law_corridor v_most s) (e := (fun r : (((Int × Int) × (List ((Int × Int) × (Int × Int))) × (Int × Int)) × DS) => (h3 (e2 eI eI) (eL (e2 (e2 eI eI) (e2 eI eI))) (e2 eI eI)) r.1)) (hp := (fun r : (((Int × Int) × (List ((Int × Int) × (Int × Int))) × (Int × Int)) × DS) => stT r.2 tl)) (s := [.val (.ref 1), .val (eI v_most), .no, .no, .no, .no, .no, .no, .no, .no, .no]) rfl rfl ?_ hr
  unfold p_law_corridor b_law_corridor
  refine Rf.bd fun t1 h_t1 => ?_
  refine Rf.bd fun t2 h_t2 => ?_
  refine Rf.setT (t := ((0 : Int), (0 : Int), ((4 : Int) + t1.1), ((4 : Int) + t2.1))) (e4 eI eI eI eI) (ev_tup (ev_args ev_c (ev_args ev_c (ev_args (ev_add ev_c (ev_call (ev_args (ev_var rfl) (ev_args ev_c ev_args0 rfl) rfl) (q_law_draw tl h_t1))) (ev_args (ev_add ev_c (ev_call (ev_args (ev_var rfl) (ev_args ev_c ev_args0 rfl) rfl) (q_law_draw tl h_t2))) ev_args0 rfl) rfl) rfl) rfl)) (fun _ => rfl) (fun _ => (sl_s (sl_s sl_z))) fun v_rect3 => ?_
  refine Rf.set0 (d := (e4 eI eI eI eI) v_rect3) (ev_var rfl) rfl (sl_s (sl_s (sl_s sl_z))) ?_
  refine Rf.own0 (ds := List.map (e2 (e2 eI eI) (e2 eI eI)) ([] : List ((Int × Int) × (Int × Int)))) (ev_disp ev_args0) (Nat.le_of_ble_eq_true rfl) (sl_s (sl_s (sl_s (sl_s sl_z)))) ?_
  refine Rf.set0 (d := (eO (e3 eI eI eI)) none) ev_c (by first | rfl | exact pureO (fun _ => rfl) _) (sl_s (sl_s (sl_s (sl_s (sl_s sl_z))))) ?_
  refine Rf.bd fun t4 h_t4 => ?_
  refine Rf.set0 (d := eI t4.1) (ev_call (ev_args (ev_var rfl) (ev_args ev_c ev_args0 rfl) rfl) (q_law_draw tl h_t4)) rfl (sl_s (sl_s (sl_s (sl_s (sl_s (sl_s sl_z)))))) ?_
  refine Rf.bd fun t5 h_t5 => ?_
  refine Rf.bd fun t6 h_t6 => ?_
  refine Rf.thn (fun (s7 : (List ((Int × Int) × (Int × Int))) × (Option (Int × Int × Int)) × Int × (Int × Int × Int × Int) × DS) z' => ∃ X8 : Option D, ∃ X9 : Option D, ∃ X10 : Option D, ∃ X11 : Option D, z' = ⟨[.val (.ref 1), .val (eI v_most), .val ((e4 eI eI eI eI) s7.2.2.2.1), .val ((e4 eI eI eI eI) v_rect3), .own (.lst (List.map (e2 (e2 eI eI) (e2 eI eI)) s7.1)), .val ((eO (e3 eI eI eI)) s7.2.1), .val (eI s7.2.2.1), (sv X8), (sv X9), (sv X10), (sv X11)], (stT s7.2.2.2.2 tl)⟩) (Rf.forN (xs := t6) (v := (([] : List ((Int × Int) × (Int × Int))), none, t4.1, v_rect3, t5.2)) eI (fun (s7 : (List ((Int × Int) × (Int × Int))) × (Option (Int × Int × Int)) × Int × (Int × Int × Int × Int) × DS) z' => ∃ X8 : Option D, ∃ X9 : Option D, ∃ X10 : Option D, ∃ X11 : Option D, z' = ⟨[.val (.ref 1), .val (eI v_most), .val ((e4 eI eI eI eI) s7.2.2.2.1), .val ((e4 eI eI eI eI) v_rect3), .own (.lst (List.map (e2 (e2 eI eI) (e2 eI eI)) s7.1)), .val ((eO (e3 eI eI eI)) s7.2.1), .val (eI s7.2.2.1), (sv X8), (sv X9), (sv X10), (sv X11)], (stT s7.2.2.2.2 tl)⟩) (ev_rngP1 (ev_call (ev_args (ev_var rfl) (ev_args (ev_add (ev_var rfl) ev_c) ev_args0 rfl) rfl) (q_law_draw tl h_t5)) h_t6) ⟨none, none, none, none, rfl⟩ fun x12 s7 z' hz => ?_) ?_
  · obtain ⟨X8, X9, X10, X11, rfl⟩ := hz
    refine ⟨_, (gr_nm (sl_s (sl_s (sl_s (sl_s (sl_s (sl_s (sl_s sl_z)))))))), ?_⟩
    refine Rf.bd fun t13 h_t13 => ?_
    refine Rf.bd fun t14 h_t14 => ?_
    refine Rf.bd fun t15 h_t15 => ?_
    refine Rf.bd fun t16 h_t16 => ?_
    refine Rf.set0 (d := eI t16) (ev_modP (ev_blt1 (ev_add (ev_add (ev_var rfl) (ev_call (ev_args (ev_var rfl) (ev_args (ev_frz (ev_disp (ev_args ev_c (ev_args ev_c (ev_args ev_c (ev_args ev_c (ev_args ev_c (ev_args ev_c ev_args0 rfl) rfl) rfl) rfl) rfl) rfl))) ev_args0 rfl) rfl) (q_law_pick tl h_t13))) (ev_mulP ev_c (ev_call (ev_args (ev_var rfl) (ev_args ev_c ev_args0 rfl) rfl) (q_law_draw tl h_t14)) h_t15)) lf_int1) ev_c h_t16) rfl (sl_s (sl_s (sl_s (sl_s (sl_s (sl_s (sl_s (sl_s sl_z)))))))) ?_
    refine Rf.bd fun t17 h_t17 => ?_
    refine Rf.set0 (d := (eO (e2 eI eI)) t17.1) (ev_call (ev_args (ev_var rfl) (ev_args (ev_var rfl) (ev_args (ev_var rfl) (ev_args (ev_var rfl) ev_args0 (by first | rfl | exact pureO (fun _ => rfl) _)) rfl) rfl) rfl) (q_law_side tl h_t17)) (by first | rfl | exact pureO (fun _ => rfl) _) (sl_s (sl_s (sl_s (sl_s (sl_s (sl_s (sl_s (sl_s (sl_s sl_z))))))))) ?_
    refine Rf.last ?_
    refine Rf.thn (β := (Int × Int × Int × Int) × (List ((Int × Int) × (Int × Int))) × (Option (Int × Int × Int)) × Int × DS) (fun j18 z' => ∃ X19 : Option D, z' = ⟨[.val (.ref 1), .val (eI v_most), .val ((e4 eI eI eI eI) j18.1), .val ((e4 eI eI eI eI) v_rect3), .own (.lst (List.map (e2 (e2 eI eI) (e2 eI eI)) j18.2.1)), .val ((eO (e3 eI eI eI)) j18.2.2.1), .val (eI j18.2.2.2.1), .val (eI x12), .val (eI t16), .val ((eO (e2 eI eI)) t17.1), (sv X19)], (stT j18.2.2.2.2 tl)⟩) ?_ ?_
    · refine Rf.last ?_
      refine Rf.ite (tv (ev_notN (ev_var rfl) (notNonE (fun _ => rfl) _))) ?_ ?_
      · refine Rf.assoc ?_
        refine Rf.bd fun t20 h_t20 => ?_
        refine Rf.bd fun t21 h_t21 => ?_
        refine Rf.bd fun t22 h_t22 => ?_
        refine Rf.asg0 (d := (h2 (e2 (e2 eI eI) (e2 eI eI)) (e4 eI eI eI eI)) t22.1) (ev_call (ev_args (ev_var rfl) (ev_args (ev_var rfl) (ev_args (ev_var rfl) (ev_args (ev_ix (ev_unO (ev_var rfl) h_t20) ev_c rfl rfl) (ev_args (ev_ix (ev_unO (ev_var rfl) h_t21) ev_c rfl rfl) ev_args0 rfl) rfl) rfl) rfl) rfl) (q_law_next tl h_t22)) rfl (gr_tl (gr_cons (gr_nm (sl_s (sl_s (sl_s (sl_s (sl_s (sl_s (sl_s (sl_s (sl_s (sl_s sl_z))))))))))) (gr_cons (gr_nm (sl_s (sl_s sl_z))) gr_nil))) ?_
        refine Rf.assoc ?_
        refine Rf.app (xs := s7.1) (t := t22.1.1) (e2 (e2 eI eI) (e2 eI eI)) rfl (ev_var rfl) rfl (fun _ => (sl_s (sl_s (sl_s (sl_s sl_z))))) fun v_gates23 => ?_
        refine Rf.assoc ?_
        refine Rf.bd fun t24 h_t24 => ?_
        refine Rf.bd fun t25 h_t25 => ?_
        refine Rf.bd fun t26 h_t26 => ?_
        refine Rf.setT (t := (some (t24, t25.1, t26.2))) (eO (e3 eI eI eI)) (ev_tup (ev_args (ev_modP (ev_blt1 (ev_add (ev_var rfl) ev_c) lf_int1) ev_c h_t24) (ev_args (ev_ix (ev_unO (ev_var rfl) h_t25) ev_c rfl rfl) (ev_args (ev_ix (ev_unO (ev_var rfl) h_t26) ev_c rfl rfl) ev_args0 rfl) rfl) rfl)) (pureO (fun _ => rfl)) (fun _ => (sl_s (sl_s (sl_s (sl_s (sl_s sl_z)))))) fun v_used27 => ?_
        refine Rf.set0 (d := eI t16) (ev_var rfl) rfl (sl_s (sl_s (sl_s (sl_s (sl_s (sl_s sl_z)))))) ?_
        exact Rf.fin ⟨rfl, (some ((e2 (e2 eI eI) (e2 eI eI)) t22.1.1)), rfl⟩
      · refine Rf.skip ?_
        exact Rf.fin ⟨rfl, X11, rfl⟩
    · rintro j18 _ ⟨X19, rfl⟩
      exact Rf.fin ⟨.inl rfl, (some (eI x12)), (some (eI t16)), (some ((eO (e2 eI eI)) t17.1)), X19, rfl⟩
  · rintro s7 _ ⟨X8, X9, X10, X11, rfl⟩
    refine Rf.frz rfl (sl_s (sl_s (sl_s (sl_s sl_z)))) ?_
    refine Rf.ite (tv (ev_eqI (ev_blt1 (ev_var rfl) (F_lenM (e := (e2 (e2 eI eI) (e2 eI eI))) rfl)) ev_c)) ?_ ?_
    · refine Rf.bd fun t28 h_t28 => ?_
      refine Rf.bd fun t29 h_t29 => ?_
      exact Rf.ret (ev_frz (ev_disp (ev_args (ev_call (ev_args (ev_var rfl) (ev_args (ev_var rfl) (ev_args ev_c ev_args0 (by first | rfl | exact pureO (fun _ => rfl) _)) rfl) rfl) (q_law_point tl h_t28)) (ev_args (ev_var rfl) (ev_args (ev_call (ev_args (ev_var rfl) (ev_args (ev_var rfl) (ev_args ev_c ev_args0 (by first | rfl | exact pureO (fun _ => rfl) _)) rfl) rfl) (q_law_point tl h_t29)) ev_args0 rfl) rfl) rfl))) rfl ⟨.inl rfl, rfl⟩
    · refine Rf.skip ?_
      refine Rf.last ?_
      refine Rf.bd fun t30 h_t30 => ?_
      refine Rf.bd fun t31 h_t31 => ?_
      refine Rf.bd fun t32 h_t32 => ?_
      refine Rf.bd fun t33 h_t33 => ?_
      exact Rf.ret (ev_frz (ev_disp (ev_args (ev_call (ev_args (ev_var rfl) (ev_args (ev_var rfl) (ev_args (ev_ixP (e := (e2 (e2 eI eI) (e2 eI eI))) (ev_var rfl) ev_c rfl h_t30) ev_args0 (by first | rfl | exact pureO (fun _ => rfl) _)) rfl) rfl) (q_law_point tl h_t31)) (ev_args (ev_var rfl) (ev_args (ev_call (ev_args (ev_var rfl) (ev_args (ev_var rfl) (ev_args (ev_ixP (e := (e2 (e2 eI eI) (e2 eI eI))) (ev_var rfl) (ev_sub (ev_blt1 (ev_var rfl) (F_lenM (e := (e2 (e2 eI eI) (e2 eI eI))) rfl)) ev_c) rfl h_t32) ev_args0 (by first | rfl | exact pureO (fun _ => rfl) _)) rfl) rfl) (q_law_point tl h_t33)) ev_args0 rfl) rfl) rfl))) rfl ⟨.inl rfl, rfl⟩
def p_cross (v_a : (Int × Int)) (v_b : (Int × Int)) (v_c : (Int × Int)) : Option Int :=
  (Pl.mul (v_b.2 - v_a.2) (v_c.1 - v_a.1)).bind fun t1 =>
  (Pl.mul (v_b.1 - v_a.1) (v_c.2 - v_a.2)).bind fun t2 =>
  some (t1 - t2)
theorem q_cross {v_a : (Int × Int)} {v_b : (Int × Int)} {v_c : (Int × Int)} (h : List D) {r : Int} (hr : p_cross v_a v_b v_c = some r) : m_cross [(e2 eI eI) v_a, (e2 eI eI) v_b, (e2 eI eI) v_c] h = some (eI r, h) := by
  refine Rf.fn (o := p_cross v_a v_b v_c) (e := eI) (hp := (fun _ : Int => h)) (s := [.val ((e2 eI eI) v_a), .val ((e2 eI eI) v_b), .val ((e2 eI eI) v_c)]) rfl rfl ?_ hr
  unfold p_cross b_cross
  refine Rf.last ?_
  refine Rf.bd fun t1 h_t1 => ?_
  refine Rf.bd fun t2 h_t2 => ?_
  exact Rf.ret (ev_sub (ev_mulP (ev_sub (ev_ix (ev_var rfl) ev_c rfl rfl) (ev_ix (ev_var rfl) ev_c rfl rfl)) (ev_sub (ev_ix (ev_var rfl) ev_c rfl rfl) (ev_ix (ev_var rfl) ev_c rfl rfl)) h_t1) (ev_mulP (ev_sub (ev_ix (ev_var rfl) ev_c rfl rfl) (ev_ix (ev_var rfl) ev_c rfl rfl)) (ev_sub (ev_ix (ev_var rfl) ev_c rfl rfl) (ev_ix (ev_var rfl) ev_c rfl rfl)) h_t2)) rfl ⟨.inl rfl, rfl⟩
def p_distance (v_a : (Int × Int)) (v_b : (Int × Int)) : Option Int :=
  (Pl.mul (v_a.1 - v_b.1) (v_a.1 - v_b.1)).bind fun t1 =>
  (Pl.mul (v_a.2 - v_b.2) (v_a.2 - v_b.2)).bind fun t2 =>
  some (t1 + t2)
theorem q_distance {v_a : (Int × Int)} {v_b : (Int × Int)} (h : List D) {r : Int} (hr : p_distance v_a v_b = some r) : m_distance [(e2 eI eI) v_a, (e2 eI eI) v_b] h = some (eI r, h) := by
  refine Rf.fn (o := p_distance v_a v_b) (e := eI) (hp := (fun _ : Int => h)) (s := [.val ((e2 eI eI) v_a), .val ((e2 eI eI) v_b)]) rfl rfl ?_ hr
  unfold p_distance b_distance
  refine Rf.last ?_
  refine Rf.bd fun t1 h_t1 => ?_
  refine Rf.bd fun t2 h_t2 => ?_
  exact Rf.ret (ev_add (ev_mulP (ev_sub (ev_ix (ev_var rfl) ev_c rfl rfl) (ev_ix (ev_var rfl) ev_c rfl rfl)) (ev_sub (ev_ix (ev_var rfl) ev_c rfl rfl) (ev_ix (ev_var rfl) ev_c rfl rfl)) h_t1) (ev_mulP (ev_sub (ev_ix (ev_var rfl) ev_c rfl rfl) (ev_ix (ev_var rfl) ev_c rfl rfl)) (ev_sub (ev_ix (ev_var rfl) ev_c rfl rfl) (ev_ix (ev_var rfl) ev_c rfl rfl)) h_t2)) rfl ⟨.inl rfl, rfl⟩
def p_nearer (v_ends : ((Int × Int) × (Int × Int))) (v_point : (Int × Int)) : Option (Int × Int) :=
  (p_distance v_ends.1 v_point).bind fun t1 =>
  (p_distance v_ends.2 v_point).bind fun t2 =>
  (if (decide (t1 ≤ t2)) = true then
  some v_ends.1
  else
  some v_ends.2)
theorem q_nearer {v_ends : ((Int × Int) × (Int × Int))} {v_point : (Int × Int)} (h : List D) {r : (Int × Int)} (hr : p_nearer v_ends v_point = some r) : m_nearer [(e2 (e2 eI eI) (e2 eI eI)) v_ends, (e2 eI eI) v_point] h = some ((e2 eI eI) r, h) := by
  refine Rf.fn (o := p_nearer v_ends v_point) (e := (e2 eI eI)) (hp := (fun _ : (Int × Int) => h)) (s := [.val ((e2 (e2 eI eI) (e2 eI eI)) v_ends), .val ((e2 eI eI) v_point)]) rfl rfl ?_ hr
  unfold p_nearer b_nearer
  refine Rf.bd fun t1 h_t1 => ?_
  refine Rf.bd fun t2 h_t2 => ?_
  refine Rf.ite (tv (ev_le (ev_call (ev_args (ev_ix (ev_var rfl) ev_c rfl rfl) (ev_args (ev_var rfl) ev_args0 rfl) rfl) (q_distance _ h_t1)) (ev_call (ev_args (ev_ix (ev_var rfl) ev_c rfl rfl) (ev_args (ev_var rfl) ev_args0 rfl) rfl) (q_distance _ h_t2)))) ?_ ?_
  · exact Rf.ret (ev_ix (ev_var rfl) ev_c rfl rfl) rfl ⟨.inl rfl, rfl⟩
  · refine Rf.skip ?_
    refine Rf.last ?_
    exact Rf.ret (ev_ix (ev_var rfl) ev_c rfl rfl) rfl ⟨.inl rfl, rfl⟩
def p_on_gate (v_ends : ((Int × Int) × (Int × Int))) (v_point : (Int × Int)) : Option Bool :=
  (p_cross v_ends.1 v_ends.2 v_point).bind fun t1 =>
  (if (!decide (t1 = (0 : Int))) = true then
  some false
  else
  (p_distance v_ends.1 v_point).bind fun t2 =>
  (p_distance v_point v_ends.2).bind fun t3 =>
  (p_distance v_ends.1 v_ends.2).bind fun t4 =>
  some (decide ((t2 + t3) ≤ t4)))
theorem q_on_gate {v_ends : ((Int × Int) × (Int × Int))} {v_point : (Int × Int)} (h : List D) {r : Bool} (hr : p_on_gate v_ends v_point = some r) : m_on_gate [(e2 (e2 eI eI) (e2 eI eI)) v_ends, (e2 eI eI) v_point] h = some (eB r, h) := by
  refine Rf.fn (o := p_on_gate v_ends v_point) (e := eB) (hp := (fun _ : Bool => h)) (s := [.val ((e2 (e2 eI eI) (e2 eI eI)) v_ends), .val ((e2 eI eI) v_point)]) rfl rfl ?_ hr
  unfold p_on_gate b_on_gate
  refine Rf.bd fun t1 h_t1 => ?_
  refine Rf.ite (tv (ev_neI (ev_call (ev_args (ev_ix (ev_var rfl) ev_c rfl rfl) (ev_args (ev_ix (ev_var rfl) ev_c rfl rfl) (ev_args (ev_var rfl) ev_args0 rfl) rfl) rfl) (q_cross _ h_t1)) ev_c)) ?_ ?_
  · exact Rf.ret ev_c rfl ⟨.inl rfl, rfl⟩
  · refine Rf.skip ?_
    refine Rf.last ?_
    refine Rf.bd fun t2 h_t2 => ?_
    refine Rf.bd fun t3 h_t3 => ?_
    refine Rf.bd fun t4 h_t4 => ?_
    exact Rf.ret (ev_le (ev_add (ev_call (ev_args (ev_ix (ev_var rfl) ev_c rfl rfl) (ev_args (ev_var rfl) ev_args0 rfl) rfl) (q_distance _ h_t2)) (ev_call (ev_args (ev_var rfl) (ev_args (ev_ix (ev_var rfl) ev_c rfl rfl) ev_args0 rfl) rfl) (q_distance _ h_t3))) (ev_call (ev_args (ev_ix (ev_var rfl) ev_c rfl rfl) (ev_args (ev_ix (ev_var rfl) ev_c rfl rfl) ev_args0 rfl) rfl) (q_distance _ h_t4))) rfl ⟨.inl rfl, rfl⟩
abbrev FB := Option ((Int × Int) × Int)
def fnF (a : Int × Int) (l r : FB) : List (Str × D) := [("apex", (e2 eI eI) a), ("left", (eO (e2 (e2 eI eI) eI)) l), ("right", (eO (e2 (e2 eI eI) eI)) r)]
def eFn (a : Int × Int) (l r : FB) : D := .ins "Funnel" (fnF a l r)
theorem fnF_ks (a : Int × Int) (l r : FB) : (fnF a l r).map Prod.fst = (["apex", "left", "right"] : List Str) := rfl
section
variable {a : Int × Int} {l r l2 r2 : FB} {n : Nat} {h : List D} {s : List Sl}
theorem fn_fld {f : Str} {d : D} (hn : h[n]? = some (eFn a l r)) (i : Nat) (hi : (fnF a l r)[i]? = some (f, d)) (g : ((["apex", "left", "right"] : List Str).take i).contains f = false) : O.fldC "Funnel" f (.ref n) ⟨s, h⟩ = some d := by
  unfold O.fldC insOf
  dsimp only
  rw [hn]
  show (if ("Funnel" : Str) = "Funnel" then (fnF a l r).lookup f else none) = _
  rw [if_pos rfl]
  exact lookup_atK (fnF_ks a l r) hi g
theorem fn_apex {m : M D} {z : Z} (h1 : m z = some (.ref n, ⟨s, h⟩)) (hn : h[n]? = some (eFn a l r)) : E.un (O.fldC "Funnel" "apex") m z = some ((e2 eI eI) a, ⟨s, h⟩) := ev_un h1 (fn_fld hn 0 rfl (by decide +kernel))
theorem fn_left {m : M D} {z : Z} (h1 : m z = some (.ref n, ⟨s, h⟩)) (hn : h[n]? = some (eFn a l r)) : E.un (O.fldC "Funnel" "left") m z = some ((eO (e2 (e2 eI eI) eI)) l, ⟨s, h⟩) := ev_un h1 (fn_fld hn 1 rfl (by decide +kernel))
theorem fn_right {m : M D} {z : Z} (h1 : m z = some (.ref n, ⟨s, h⟩)) (hn : h[n]? = some (eFn a l r)) : E.un (O.fldC "Funnel" "right") m z = some ((eO (e2 (e2 eI eI) eI)) r, ⟨s, h⟩) := ev_un h1 (fn_fld hn 2 rfl (by decide +kernel))
theorem putL (d : D) : putFD "left" d (fnF a l r) = ([("apex", (e2 eI eI) a), ("left", d), ("right", (eO (e2 (e2 eI eI) eI)) r)] : List (Str × D)) := by
  unfold fnF
  rw [putFD, if_neg (by decide +kernel), putFD, if_pos rfl]
theorem putR (d : D) : putFD "right" d (fnF a l r) = ([("apex", (e2 eI eI) a), ("left", (eO (e2 (e2 eI eI) eI)) l), ("right", d)] : List (Str × D)) := by
  unfold fnF
  rw [putFD, if_neg (by decide +kernel), putFD, if_neg (by decide +kernel), putFD, if_pos rfl]
theorem fn_setL {m o : M D} {z z1 : Z} {v : (Int × Int) × Int} (hm : m z = some ((e2 (e2 eI eI) eI) v, z1)) (ho : o z1 = some (.ref n, ⟨s, h⟩)) (hn : h[n]? = some (eFn a l r)) : C.fsetC "Funnel" "left" o m z = some (.nx, ⟨s, h.set n (eFn a (some v) r)⟩) := by
  unfold C.fsetC
  rw [bnd_of hm, bnd_of ho]
  dsimp only
  rw [if_pos (show isPure _ = true from rfl), hn]
  show (if ("Funnel" : Str) = "Funnel" ∧ (fnF a l r).length < 1000 then some (Fl.nx, (⟨s, h.set n (.ins "Funnel" (putFD "left" _ (fnF a l r)))⟩ : Z)) else none) = _
  rw [if_pos ⟨rfl, (show 3 < 1000 by decide)⟩, putL]
  rfl
theorem fn_setR {m o : M D} {z z1 : Z} {v : (Int × Int) × Int} (hm : m z = some ((e2 (e2 eI eI) eI) v, z1)) (ho : o z1 = some (.ref n, ⟨s, h⟩)) (hn : h[n]? = some (eFn a l r)) : C.fsetC "Funnel" "right" o m z = some (.nx, ⟨s, h.set n (eFn a l (some v))⟩) := by
  unfold C.fsetC
  rw [bnd_of hm, bnd_of ho]
  dsimp only
  rw [if_pos (show isPure _ = true from rfl), hn]
  show (if ("Funnel" : Str) = "Funnel" ∧ (fnF a l r).length < 1000 then some (Fl.nx, (⟨s, h.set n (.ins "Funnel" (putFD "right" _ (fnF a l r)))⟩ : Z)) else none) = _
  rw [if_pos ⟨rfl, (show 3 < 1000 by decide)⟩, putR]
  rfl
theorem fn_new {fs : List (Str × D)} {f : Str} {m o : M D} {z z1 : Z} {d : D} {ks : List Str} (hm : m z = some (d, z1)) (hp : isPure d = true) (ho : o z1 = some (.ref h.length, ⟨s, h ++ [.ins "Funnel" fs]⟩)) (hk : fs.map Prod.fst = ks) (hn : ks.contains f = false) (hl : ks.length < 1000) : C.fsetC "Funnel" f o m z = some (.nx, ⟨s, h ++ [.ins "Funnel" (fs ++ [(f, d)])]⟩) := by
  subst hk
  unfold C.fsetC
  rw [bnd_of hm, bnd_of ho]
  dsimp only
  rw [if_pos hp, List.getElem?_append_right (Nat.le_refl _), Nat.sub_self]
  dsimp only [List.getElem?_cons_zero]
  rw [if_pos ⟨rfl, by rw [List.length_map] at hl; exact hl⟩, putFD_new hn]
  simp
theorem init_e : m_Funnel___init__ [.ref h.length, (e2 eI eI) a] (h ++ [.ins "Funnel" []]) = some (.non, h ++ [eFn a none none]) := by
  refine Rf.fn (o := some ()) (e := fun _ => .non) (hp := fun _ => h ++ [eFn a none none]) (s := [.val (.ref h.length), .val ((e2 eI eI) a)]) rfl rfl ?_ rfl
  unfold b_Funnel___init__
  refine Rf.nx (fn_new (ks := []) (ev_var rfl) rfl (ev_var rfl) rfl rfl (by decide)) ?_
  refine Rf.nx (fn_new (ks := ["apex"]) ev_c rfl (ev_var rfl) rfl (by decide +kernel) (by decide)) ?_
  refine Rf.last (Rf.nx (fn_new (ks := ["apex", "left"]) ev_c rfl (ev_var rfl) rfl (by decide +kernel) (by decide)) ?_)
  exact Rf.fin ⟨.inr ⟨rfl, rfl⟩, rfl⟩
end
def p_misses (a : Int × Int) (l r : FB) (left right : Int × Int) : Option FB :=
  (if l.isNone = true then some none
  else
  l.bind fun lv =>
  (p_cross a lv.1 right).bind fun t1 =>
  (if decide ((0 : Int) < t1) = true then some l
  else
  r.bind fun rv =>
  (p_cross a rv.1 left).bind fun t2 =>
  (if decide (t2 < (0 : Int)) = true then some r
  else some none)))
def p_narrow (a : Int × Int) (l r : FB) (ends : (Int × Int) × (Int × Int)) (at_ : Int) : Option (FB × FB) :=
  (Pl.orO l.isNone (l.bind fun lv => (p_cross a lv.1 ends.1).bind fun t1 => some (decide (t1 ≤ (0 : Int))))).bind fun b1 =>
  (if b1 = true then some (some (ends.1, at_)) else some l : Option FB).bind fun l2 =>
  (Pl.orO r.isNone (r.bind fun rv => (p_cross a rv.1 ends.2).bind fun t2 => some (decide ((0 : Int) ≤ t2)))).bind fun b2 =>
  (if b2 = true then some (some (ends.2, at_)) else some r : Option FB).bind fun r2 =>
  some (l2, r2)
def p_next_bend (a : Int × Int) (gates : List ((Int × Int) × (Int × Int))) (first : Int) (e : Int × Int) : Option FB :=
  (Pl.rngO first (gates.length : Int)).bind fun t1 =>
  ((Pl.forO (fun (at_ : Int) (s : FB × FB) =>
  (Pl.at_ gates at_).bind fun ends =>
  (p_cross ends.1 ends.2 a).bind fun c =>
  (if decide (c = (0 : Int)) = true then
  (Pl.andO s.1.isNone (p_on_gate ends a)).bind fun b =>
  (if b = true then some (.go s)
  else
  (p_nearer ends a).bind fun near =>
  (p_misses a s.1 s.2 near near).bind fun bend =>
  some (.ret (if bend.isNone = true then some (near, at_) else bend)))
  else
  (p_misses a s.1 s.2 ends.1 ends.2).bind fun bend =>
  (if bend.isSome = true then some (.ret bend)
  else
  (p_narrow a s.1 s.2 ends at_).bind fun s2 => some (.go s2)))) t1 (none, none)) : Option ((FB × FB) ⊕ FB)).bind (Pl.out (fun s => (p_misses a s.1 s.2 e e).bind fun r => some r) (fun r => some r))
section
variable {a : Int × Int} {l r : FB} {n : Nat} {h : List D}
theorem q_misses {left right : Int × Int} {b : FB} (hn : h[n]? = some (eFn a l r)) (hr : p_misses a l r left right = some b) : m_Funnel_misses [.ref n, (e2 eI eI) left, (e2 eI eI) right] h = some ((eO (e2 (e2 eI eI) eI)) b, h) := by
  refine Rf.fn (o := p_misses a l r left right) (e := (eO (e2 (e2 eI eI) eI))) (hp := fun _ => h) (s := [.val (.ref n), .val ((e2 eI eI) left), .val ((e2 eI eI) right)]) rfl rfl ?_ hr
  unfold p_misses b_Funnel_misses
  refine Rf.ite (tv (ev_isN (fn_left (ev_var rfl) hn) (nonE (fun _ => rfl) _))) ?_ ?_
  · exact Rf.ret ev_c rfl ⟨.inl rfl, rfl⟩
  · refine Rf.skip ?_
    refine Rf.bd fun lv hlv => ?_
    refine Rf.bd fun t1 h_t1 => ?_
    refine Rf.ite (tv (ev_gt (ev_call (ev_args (fn_apex (ev_var rfl) hn) (ev_args (ev_ix (ev_unO (fn_left (ev_var rfl) hn) hlv) ev_c rfl rfl) (ev_args (ev_var rfl) ev_args0 rfl) rfl) rfl) (q_cross _ h_t1)) ev_c)) ?_ ?_
    · exact Rf.ret (fn_left (ev_var rfl) hn) (by cases l <;> rfl) ⟨.inl rfl, rfl⟩
    · refine Rf.skip ?_
      refine Rf.bd fun rv hrv => ?_
      refine Rf.bd fun t2 h_t2 => ?_
      refine Rf.ite (tv (ev_lt (ev_call (ev_args (fn_apex (ev_var rfl) hn) (ev_args (ev_ix (ev_unO (fn_right (ev_var rfl) hn) hrv) ev_c rfl rfl) (ev_args (ev_var rfl) ev_args0 rfl) rfl) rfl) (q_cross _ h_t2)) ev_c)) ?_ ?_
      · exact Rf.ret (fn_right (ev_var rfl) hn) (by cases r <;> rfl) ⟨.inl rfl, rfl⟩
      · refine Rf.skip (Rf.last ?_)
        exact Rf.ret ev_c rfl ⟨.inl rfl, rfl⟩
theorem q_narrow {ends : (Int × Int) × (Int × Int)} {at_ : Int} {b : FB × FB} (hn : h[n]? = some (eFn a l r)) (hr : p_narrow a l r ends at_ = some b) : m_Funnel_narrow [.ref n, (e2 (e2 eI eI) (e2 eI eI)) ends, .int at_] h = some (.non, h.set n (eFn a b.1 b.2)) := by
  have hlt : n < h.length := (List.getElem?_eq_some_iff.mp hn).1
  refine Rf.fn (o := p_narrow a l r ends at_) (e := fun _ => .non) (hp := fun b => h.set n (eFn a b.1 b.2)) (s := [.val (.ref n), .val ((e2 (e2 eI eI) (e2 eI eI)) ends), .val (.int at_)]) rfl rfl ?_ hr
  unfold p_narrow b_Funnel_narrow
  refine Rf.bd fun b1 hb1 => ?_
  refine Rf.thn (fun l2 z' => z' = ⟨[.val (.ref n), .val ((e2 (e2 eI eI) (e2 eI eI)) ends), .val (.int at_)], h.set n (eFn a l2 r)⟩) (Rf.last (Rf.ite (tt_orO (tv (ev_isN (fn_left (ev_var rfl) hn) (nonE (fun _ => rfl) _))) (fun q hq => by
    obtain ⟨lv, hlv, hq⟩ := bI hq
    obtain ⟨t1, h_t1, hq⟩ := bI hq
    cases hq
    exact tv (ev_le (ev_call (ev_args (fn_apex (ev_var rfl) hn) (ev_args (ev_ix (ev_unO (fn_left (ev_var rfl) hn) hlv) ev_c rfl rfl) (ev_args (ev_ix (ev_var rfl) ev_c rfl rfl) ev_args0 rfl) rfl) rfl) (q_cross _ h_t1)) ev_c)) hb1) ?_ ?_)) ?_
  · refine Rf.nx (fn_setL (v := (ends.1, at_)) (ev_tup (ev_args (ev_ix (ev_var rfl) ev_c rfl rfl) (ev_args (ev_var rfl) ev_args0 rfl) rfl)) (ev_var rfl) hn) ?_
    exact Rf.fin ⟨rfl, rfl⟩
  · refine Rf.skip (Rf.fin ⟨rfl, ?_⟩)
    obtain ⟨_, e⟩ := List.getElem?_eq_some_iff.mp hn
    rw [← e, List.set_getElem_self]
  · rintro l2 _ rfl
    have hn2 : (h.set n (eFn a l2 r))[n]? = some (eFn a l2 r) := List.getElem?_set_self hlt
    refine Rf.bd fun b2 hb2 => ?_
    refine Rf.last ?_
    refine Rf.thn (fun r2 z' => z' = ⟨[.val (.ref n), .val ((e2 (e2 eI eI) (e2 eI eI)) ends), .val (.int at_)], h.set n (eFn a l2 r2)⟩) (Rf.last (Rf.ite (tt_orO (tv (ev_isN (fn_right (ev_var rfl) hn2) (nonE (fun _ => rfl) _))) (fun q hq => by
      obtain ⟨lv, hlv, hq⟩ := bI hq
      obtain ⟨t1, h_t1, hq⟩ := bI hq
      cases hq
      exact tv (ev_ge (ev_call (ev_args (fn_apex (ev_var rfl) hn2) (ev_args (ev_ix (ev_unO (fn_right (ev_var rfl) hn2) hlv) ev_c rfl rfl) (ev_args (ev_ix (ev_var rfl) ev_c rfl rfl) ev_args0 rfl) rfl) rfl) (q_cross _ h_t1)) ev_c)) hb2) ?_ ?_)) ?_
    · refine Rf.nx (fn_setR (v := (ends.2, at_)) (ev_tup (ev_args (ev_ix (ev_var rfl) ev_c rfl rfl) (ev_args (ev_var rfl) ev_args0 rfl) rfl)) (ev_var rfl) hn2) ?_
      exact Rf.fin ⟨rfl, by rw [List.set_set]⟩
    · exact Rf.skip (Rf.fin ⟨rfl, rfl⟩)
    · rintro r2 _ rfl
      exact Rf.fin ⟨.inr ⟨rfl, rfl⟩, rfl⟩
theorem ins_fn (hn : h[n]? = some (eFn a l r)) (s : List Sl) : insOf (.ref n) ⟨s, h⟩ = some (("Funnel" : Str), fnF a l r) := by
  unfold insOf
  dsimp only
  rw [hn]
  rfl
theorem ev_methF {f : Str} {mf : Fn} {o : M D} {ms : List (M D)} {xs : List D} {s : List Sl} {h' : List D} {d : D} {z : Z} (h1 : o z = some (.ref n, ⟨s, h⟩)) (hn : h[n]? = some (eFn a l r)) (h3 : (["apex", "left", "right"] : List Str).contains f = false) (h4 : E.args ms ⟨s, h⟩ = some (xs, ⟨s, h⟩)) (h5 : mf (.ref n :: xs) h = some (d, h')) : E.meth "Funnel" f mf o ms z = some (d, ⟨s, h'⟩) := by
  unfold E.meth
  rw [bnd_of h1]
  simp only [ins_fn hn]
  rw [if_pos ⟨trivial, lookup_notK (fnF_ks a l r) h3⟩, bnd_of h4]
  simp only [h5]
end
theorem mkF_e {mf : Fn} {ms : List (M D)} {xs : List D} {sl : List Sl} {h h' : List D} (ha : E.args ms ⟨sl, h⟩ = some (xs, ⟨sl, h⟩)) (hm : mf (.ref h.length :: xs) (h ++ [.ins "Funnel" []]) = some (.non, h')) : E.mkR "Funnel" mf ms ⟨sl, h⟩ = some (.ref h.length, ⟨sl, h'⟩) := by
  unfold E.mkR
  rw [bnd_of ha]
  dsimp only
  rw [hm]
theorem q_next_bend {a : Int × Int} {gates : List ((Int × Int) × (Int × Int))} {first : Int} {e : Int × Int} (h : List D) {r : FB} (hr : p_next_bend a gates first e = some r) : m_next_bend [(e2 eI eI) a, (eL (e2 (e2 eI eI) (e2 eI eI))) gates, .int first, (e2 eI eI) e] h = some ((eO (e2 (e2 eI eI) eI)) r, h) := by
  refine (fun q => Exists.elim q fun _ q => gc_evP (e := (eO (e2 (e2 eI eI) eI))) (BlE.O (BlE.t2 (BlE.t2 BlE.I BlE.I) (BlE.mono BlE.I (by decide : 0 ≤ 1)))) (by decide) q) (Rf.fnG (o := p_next_bend a gates first e) (e := (eO (e2 (e2 eI eI) eI))) (s := [.val ((e2 eI eI) a), .val ((eL (e2 (e2 eI eI) (e2 eI eI))) gates), .val (.int first), .val ((e2 eI eI) e), .no, .no, .no, .no, .no]) rfl rfl ?_ hr)
  unfold p_next_bend b_next_bend
  refine Rf.set0 (d := .ref h.length) (mkF_e (ev_args (ev_var rfl) ev_args0 rfl) init_e) rfl rfl ?_
  refine Rf.bd fun t1 h_t1 => ?_
  have at0 : ∀ d : D, (h ++ [d])[h.length]? = some d := fun d => by rw [List.getElem?_append_right (Nat.le_refl _), Nat.sub_self]; rfl
  have set0 : ∀ d d' : D, (h ++ [d]).set h.length d' = h ++ [d'] := fun d d' => by simp
  refine Rf.thnX (fun (s : FB × FB) z' => ∃ X5 X6 X7 X8 : Option D, z' = ⟨[.val ((e2 eI eI) a), .val ((eL (e2 (e2 eI eI) (e2 eI eI))) gates), .val (.int first), .val ((e2 eI eI) e), .val (.ref h.length), sv X5, sv X6, sv X7, sv X8], h ++ [eFn a s.1 s.2]⟩) (fun (r : FB) f z' => (f = .rt ((eO (e2 (e2 eI eI) eI)) r) ∨ (f = .nx ∧ (eO (e2 (e2 eI eI) eI)) r = .non)) ∧ ∃ ext, z'.h = h ++ ext) (Rf.forO (xs := t1) (v := ((none, none) : FB × FB)) eI (fun (s : FB × FB) z' => ∃ X5 X6 X7 X8 : Option D, z' = ⟨[.val ((e2 eI eI) a), .val ((eL (e2 (e2 eI eI) (e2 eI eI))) gates), .val (.int first), .val ((e2 eI eI) e), .val (.ref h.length), sv X5, sv X6, sv X7, sv X8], h ++ [eFn a s.1 s.2]⟩) (fun (r : FB) f z' => (f = .rt ((eO (e2 (e2 eI eI) eI)) r) ∨ (f = .nx ∧ (eO (e2 (e2 eI eI) eI)) r = .non)) ∧ ∃ ext, z'.h = h ++ ext) (ev_rngP (ev_var rfl) (ev_blt1 (ev_var rfl) (F_lenM (e := (e2 (e2 eI eI) (e2 eI eI))) rfl)) h_t1) ⟨none, none, none, none, rfl⟩ fun x s z' hz => ?_) ?_ ?_
  · obtain ⟨X5, X6, X7, X8, rfl⟩ := hz
    refine ⟨_, (gr_nm (sl_s (sl_s (sl_s (sl_s (sl_s sl_z)))))), ?_⟩
    unfold lp_next_bend1
    refine Rf.bd fun ends h_ends => ?_
    refine Rf.set0 (d := (e2 (e2 eI eI) (e2 eI eI)) ends) (ev_ixP (e := (e2 (e2 eI eI) (e2 eI eI))) (ev_var rfl) (ev_var rfl) rfl h_ends) rfl (sl_s (sl_s (sl_s (sl_s (sl_s (sl_s sl_z)))))) ?_
    refine Rf.bd fun c h_c => ?_
    refine Rf.ite (tv (ev_eqI (ev_call (ev_args (ev_ix (ev_var rfl) ev_c rfl rfl) (ev_args (ev_ix (ev_var rfl) ev_c rfl rfl) (ev_args (ev_var rfl) ev_args0 rfl) rfl) rfl) (q_cross _ h_c)) ev_c)) ?_ ?_
    · refine Rf.bd fun b h_b => ?_
      refine Rf.assoc (Rf.ite (tt_andO (tv (ev_isN (fn_left (ev_var rfl) (at0 _)) (nonE (fun _ => rfl) _))) (fun q hq => by exact tt_tru (ev_call (ev_args (ev_var rfl) (ev_args (ev_var rfl) ev_args0 rfl) rfl) (q_on_gate _ hq)) rfl) h_b) ?_ ?_)
      · exact Rf.cnt ⟨.inr rfl, some _, some _, X7, X8, rfl⟩
      · refine Rf.skip ?_
        refine Rf.bd fun near h_near => ?_
        refine Rf.assoc (Rf.set0 (d := (e2 eI eI) near) (ev_call (ev_args (ev_var rfl) (ev_args (ev_var rfl) ev_args0 rfl) rfl) (q_nearer _ h_near)) rfl (sl_s (sl_s (sl_s (sl_s (sl_s (sl_s (sl_s sl_z))))))) ?_)
        refine Rf.bd fun bend h_bend => ?_
        refine Rf.assoc (Rf.set0 (d := (eO (e2 (e2 eI eI) eI)) bend) (ev_methF (ev_var rfl) (at0 _) (by decide +kernel) (ev_args (ev_var rfl) (ev_args (ev_var rfl) ev_args0 rfl) rfl) (q_misses (at0 _) h_bend)) (by cases bend <;> rfl) (sl_s (sl_s (sl_s (sl_s (sl_s (sl_s (sl_s (sl_s sl_z)))))))) ?_)
        exact Rf.ret (ev_iteE (e := (eO (e2 (e2 eI eI) eI))) (p := bend.isNone) (v := some (near, x)) (w := bend) (tv (ev_isN (ev_var rfl) (by cases bend <;> rfl))) (ev_tup (ev_args (ev_var rfl) (ev_args (ev_var rfl) ev_args0 rfl) rfl)) (ev_var rfl)) (by cases bend <;> rfl) ⟨⟨_, rfl⟩, .inl rfl, _, rfl⟩
    · refine Rf.skip ?_
      refine Rf.bd fun bend h_bend => ?_
      refine Rf.set0 (d := (eO (e2 (e2 eI eI) eI)) bend) (ev_methF (ev_var rfl) (at0 _) (by decide +kernel) (ev_args (ev_ix (ev_var rfl) ev_c rfl rfl) (ev_args (ev_ix (ev_var rfl) ev_c rfl rfl) ev_args0 rfl) rfl) (q_misses (at0 _) h_bend)) (by cases bend <;> rfl) (sl_s (sl_s (sl_s (sl_s (sl_s (sl_s (sl_s (sl_s sl_z)))))))) ?_
      refine Rf.ite (p := bend.isSome) (tv (ev_notN (ev_var rfl) (by cases bend <;> rfl))) ?_ ?_
      · exact Rf.ret (d := (eO (e2 (e2 eI eI) eI)) bend) (ev_var rfl) (by cases bend <;> rfl) ⟨⟨_, rfl⟩, .inl rfl, _, rfl⟩
      · refine Rf.skip (Rf.last ?_)
        refine Rf.bd fun s2 h_s2 => ?_
        refine Rf.drop (ev_methF (ev_var rfl) (at0 _) (by decide +kernel) (ev_args (ev_var rfl) (ev_args (ev_var rfl) ev_args0 rfl) rfl) (q_narrow (at0 _) h_s2)) ?_
        rw [set0]
        exact Rf.fin ⟨.inl rfl, some _, some _, X7, some _, rfl⟩
  · rintro s _ ⟨X5, X6, X7, X8, rfl⟩
    refine Rf.last (Rf.bd fun r hr => ?_)
    exact Rf.ret (d := (eO (e2 (e2 eI eI) eI)) r) (ev_methF (ev_var rfl) (at0 _) (by decide +kernel) (ev_args (ev_var rfl) (ev_args (ev_var rfl) ev_args0 rfl) rfl) (q_misses (at0 _) hr)) (by cases r <;> rfl) ⟨.inl rfl, _, rfl⟩
  · intro r r' f z' hk hr
    cases hk
    exact hr.2
def p_is_straight (v_a : (Int × Int)) (v_b : (Int × Int)) (v_c : (Int × Int)) : Option Bool :=
  (p_cross v_a v_b v_c).bind fun t1 =>
  (if (!decide (t1 = (0 : Int))) = true then
  some false
  else
  (Pl.mul (v_b.1 - v_a.1) (v_c.1 - v_b.1)).bind fun t2 =>
  (Pl.mul (v_b.2 - v_a.2) (v_c.2 - v_b.2)).bind fun t3 =>
  some (decide ((0 : Int) < (t2 + t3))))
theorem q_is_straight {v_a : (Int × Int)} {v_b : (Int × Int)} {v_c : (Int × Int)} (h : List D) {r : Bool} (hr : p_is_straight v_a v_b v_c = some r) : m_is_straight [(e2 eI eI) v_a, (e2 eI eI) v_b, (e2 eI eI) v_c] h = some (eB r, h) := by
  refine Rf.fn (o := p_is_straight v_a v_b v_c) (e := eB) (hp := (fun _ : Bool => h)) (s := [.val ((e2 eI eI) v_a), .val ((e2 eI eI) v_b), .val ((e2 eI eI) v_c)]) rfl rfl ?_ hr
  unfold p_is_straight b_is_straight
  refine Rf.bd fun t1 h_t1 => ?_
  refine Rf.ite (tv (ev_neI (ev_call (ev_args (ev_var rfl) (ev_args (ev_var rfl) (ev_args (ev_var rfl) ev_args0 rfl) rfl) rfl) (q_cross _ h_t1)) ev_c)) ?_ ?_
  · exact Rf.ret ev_c rfl ⟨.inl rfl, rfl⟩
  · refine Rf.skip ?_
    refine Rf.last ?_
    refine Rf.bd fun t2 h_t2 => ?_
    refine Rf.bd fun t3 h_t3 => ?_
    exact Rf.ret (ev_gt (ev_add (ev_mulP (ev_sub (ev_ix (ev_var rfl) ev_c rfl rfl) (ev_ix (ev_var rfl) ev_c rfl rfl)) (ev_sub (ev_ix (ev_var rfl) ev_c rfl rfl) (ev_ix (ev_var rfl) ev_c rfl rfl)) h_t2) (ev_mulP (ev_sub (ev_ix (ev_var rfl) ev_c rfl rfl) (ev_ix (ev_var rfl) ev_c rfl rfl)) (ev_sub (ev_ix (ev_var rfl) ev_c rfl rfl) (ev_ix (ev_var rfl) ev_c rfl rfl)) h_t3)) ev_c) rfl ⟨.inl rfl, rfl⟩
def p_without_straight (v_points : (List (Int × Int))) (v_bends : (List Int)) : Option ((List (Int × Int)) × (List Int)) :=
  (Pl.at_ v_points (0 : Int)).bind fun t1 =>
  (some ([t1])).bind fun v_kept2 =>
  (Pl.rngO (1 : Int) ((v_points.length : Int) - (1 : Int))).bind fun t3 =>
  (Pl.forN (fun (x6 : Int) (s4 : (List (Int × Int)) × (List Int)) =>
  (Pl.at_ s4.1 (-(1 : Int))).bind fun t7 =>
  (Pl.at_ v_points x6).bind fun t8 =>
  (Pl.at_ v_points (x6 + (1 : Int))).bind fun t9 =>
  (p_is_straight t7 t8 t9).bind fun t10 =>
  ((if (!t10) = true then
  (Pl.at_ v_points x6).bind fun t12 =>
  (Pl.app s4.1 t12).bind fun v_kept13 =>
  (Pl.at_ v_bends (x6 - (1 : Int))).bind fun t14 =>
  (Pl.app s4.2 t14).bind fun v_left15 =>
  some (v_kept13, v_left15)
  else
  some (s4.1, s4.2)) : Option ((List (Int × Int)) × (List Int))).bind fun j11 =>
  some (j11.1, j11.2)) t3 (v_kept2, ([] : List Int))).bind fun (s4 : (List (Int × Int)) × (List Int)) =>
  ((if (decide ((1 : Int) < (v_points.length : Int))) = true then
  (Pl.at_ v_points (-(1 : Int))).bind fun t17 =>
  (Pl.app s4.1 t17).bind fun v_kept18 =>
  some (v_kept18)
  else
  some (s4.1)) : Option ((List (Int × Int)))).bind fun j16 =>
  some (j16, s4.2)
theorem q_without_straight {v_points : (List (Int × Int))} {v_bends : (List Int)} (h : List D) {r : ((List (Int × Int)) × (List Int))} (hr : p_without_straight v_points v_bends = some r) : m_without_straight [(eL (e2 eI eI)) v_points, (eL eI) v_bends] h = some ((e2 (eL (e2 eI eI)) (eL eI)) r, h) := by
  refine Rf.fn (o := p_without_straight v_points v_bends) (e := (e2 (eL (e2 eI eI)) (eL eI))) (hp := (fun _ : ((List (Int × Int)) × (List Int)) => h)) (s := [.val ((eL (e2 eI eI)) v_points), .val ((eL eI) v_bends), .no, .no, .no]) rfl rfl ?_ hr
  unfold p_without_straight b_without_straight
  refine Rf.bd fun t1 h_t1 => ?_
  refine Rf.ownT (t := [t1]) (e2 eI eI) (ev_disp (ev_args (ev_ixP (e := (e2 eI eI)) (ev_var rfl) ev_c rfl h_t1) ev_args0 rfl)) (Nat.le_of_ble_eq_true rfl) (fun _ => (sl_s (sl_s sl_z))) fun v_kept2 => ?_
  refine Rf.own0 (ds := List.map eI ([] : List Int)) (ev_disp ev_args0) (Nat.le_of_ble_eq_true rfl) (sl_s (sl_s (sl_s sl_z))) ?_
  refine Rf.bd fun t3 h_t3 => ?_
  refine Rf.thn (fun (s4 : (List (Int × Int)) × (List Int)) z' => ∃ X5 : Option D, z' = ⟨[.val ((eL (e2 eI eI)) v_points), .val ((eL eI) v_bends), .own (.lst (List.map (e2 eI eI) s4.1)), .own (.lst (List.map eI s4.2)), (sv X5)], h⟩) (Rf.forN (xs := t3) (v := (v_kept2, ([] : List Int))) eI (fun (s4 : (List (Int × Int)) × (List Int)) z' => ∃ X5 : Option D, z' = ⟨[.val ((eL (e2 eI eI)) v_points), .val ((eL eI) v_bends), .own (.lst (List.map (e2 eI eI) s4.1)), .own (.lst (List.map eI s4.2)), (sv X5)], h⟩) (ev_rngP ev_c (ev_sub (ev_blt1 (ev_var rfl) (F_lenM (e := (e2 eI eI)) rfl)) ev_c) h_t3) ⟨none, rfl⟩ fun x6 s4 z' hz => ?_) ?_
  · obtain ⟨X5, rfl⟩ := hz
    refine ⟨_, (gr_nm (sl_s (sl_s (sl_s (sl_s sl_z))))), ?_⟩
    refine Rf.last ?_
    refine Rf.bd fun t7 h_t7 => ?_
    refine Rf.bd fun t8 h_t8 => ?_
    refine Rf.bd fun t9 h_t9 => ?_
    refine Rf.bd fun t10 h_t10 => ?_
    refine Rf.thn (β := (List (Int × Int)) × (List Int)) (fun j11 z' => z' = ⟨[.val ((eL (e2 eI eI)) v_points), .val ((eL eI) v_bends), .own (.lst (List.map (e2 eI eI) j11.1)), .own (.lst (List.map eI j11.2)), .val (eI x6)], h⟩) ?_ ?_
    · refine Rf.last ?_
      refine Rf.ite (tt_not (tt_tru (ev_call (ev_args (ev_ixP (e := (e2 eI eI)) (ev_varO rfl) (ev_neg ev_c) rfl h_t7) (ev_args (ev_ixP (e := (e2 eI eI)) (ev_var rfl) (ev_var rfl) rfl h_t8) (ev_args (ev_ixP (e := (e2 eI eI)) (ev_var rfl) (ev_add (ev_var rfl) ev_c) rfl h_t9) ev_args0 rfl) rfl) rfl) (q_is_straight _ h_t10)) rfl)) ?_ ?_
      · refine Rf.assoc ?_
        refine Rf.bd fun t12 h_t12 => ?_
        refine Rf.app (xs := s4.1) (t := t12) (e2 eI eI) rfl (ev_ixP (e := (e2 eI eI)) (ev_var rfl) (ev_var rfl) rfl h_t12) rfl (fun _ => (sl_s (sl_s sl_z))) fun v_kept13 => ?_
        refine Rf.bd fun t14 h_t14 => ?_
        refine Rf.app (xs := s4.2) (t := t14) eI rfl (ev_ixP (e := eI) (ev_var rfl) (ev_sub (ev_var rfl) ev_c) rfl h_t14) rfl (fun _ => (sl_s (sl_s (sl_s sl_z)))) fun v_left15 => ?_
        exact Rf.fin ⟨rfl, rfl⟩
      · refine Rf.skip ?_
        exact Rf.fin ⟨rfl, rfl⟩
    · rintro j11 _ ⟨rfl⟩
      exact Rf.fin ⟨.inl rfl, (some (eI x6)), rfl⟩
  · rintro s4 _ ⟨X5, rfl⟩
    refine Rf.thn (β := (List (Int × Int))) (fun j16 z' => z' = ⟨[.val ((eL (e2 eI eI)) v_points), .val ((eL eI) v_bends), .own (.lst (List.map (e2 eI eI) j16)), .own (.lst (List.map eI s4.2)), (sv X5)], h⟩) ?_ ?_
    · refine Rf.last ?_
      refine Rf.ite (tv (ev_gt (ev_blt1 (ev_var rfl) (F_lenM (e := (e2 eI eI)) rfl)) ev_c)) ?_ ?_
      · refine Rf.bd fun t17 h_t17 => ?_
        refine Rf.app (xs := s4.1) (t := t17) (e2 eI eI) rfl (ev_ixP (e := (e2 eI eI)) (ev_var rfl) (ev_neg ev_c) rfl h_t17) rfl (fun _ => (sl_s (sl_s sl_z))) fun v_kept18 => ?_
        exact Rf.fin ⟨rfl, rfl⟩
      · refine Rf.skip ?_
        exact Rf.fin ⟨rfl, rfl⟩
    · rintro j16 _ ⟨rfl⟩
      refine Rf.frz rfl (sl_s (sl_s (sl_s sl_z))) ?_
      refine Rf.frz rfl (sl_s (sl_s sl_z)) ?_
      refine Rf.last ?_
      exact Rf.ret (ev_tup (ev_args (ev_var rfl) (ev_args (ev_var rfl) ev_args0 rfl) rfl)) rfl ⟨.inl rfl, rfl⟩
def p_taut (v_start : (Int × Int)) (v_gates : (List ((Int × Int) × (Int × Int)))) (v_end : (Int × Int)) : Option ((List (Int × Int)) × (List Int)) :=
  (some ([v_start])).bind fun v_points1 =>
  (p_next_bend v_start v_gates (0 : Int) v_end).bind fun t2 =>
  ((Pl.whO (fun (s3 : (List (Int × Int)) × (List Int) × (Option ((Int × Int) × Int))) => (some s3.2.2.isSome)) (fun (s3 : (List (Int × Int)) × (List Int) × (Option ((Int × Int) × Int))) =>
  (s3.2.2).bind fun t5 =>
  (Pl.app s3.1 t5.1).bind fun v_points6 =>
  (s3.2.2).bind fun t7 =>
  (Pl.app s3.2.1 t7.2).bind fun v_bends8 =>
  (s3.2.2).bind fun t9 =>
  (s3.2.2).bind fun t10 =>
  (p_next_bend t9.1 v_gates (t10.2 + (1 : Int)) v_end).bind fun t11 =>
  some (.go (v_points6, v_bends8, t11))) (v_points1, ([] : List Int), t2)) : Option (((List (Int × Int)) × (List Int) × (Option ((Int × Int) × Int))) ⊕ ((List (Int × Int)) × (List Int)))).bind (Pl.out (fun (s3 : (List (Int × Int)) × (List Int) × (Option ((Int × Int) × Int))) =>
  (Pl.at_ s3.1 (-(1 : Int))).bind fun t12 =>
  ((if (!decide (t12 = v_end)) = true then
  (Pl.app s3.1 v_end).bind fun v_points14 =>
  some (v_points14)
  else
  some (s3.1)) : Option ((List (Int × Int)))).bind fun j13 =>
  (p_without_straight j13 s3.2.1).bind fun t15 =>
  some t15) (fun _ => none))
theorem q_taut {v_start : (Int × Int)} {v_gates : (List ((Int × Int) × (Int × Int)))} {v_end : (Int × Int)} (h : List D) {r : ((List (Int × Int)) × (List Int))} (hr : p_taut v_start v_gates v_end = some r) : m_taut [(e2 eI eI) v_start, (eL (e2 (e2 eI eI) (e2 eI eI))) v_gates, (e2 eI eI) v_end] h = some ((e2 (eL (e2 eI eI)) (eL eI)) r, h) := by
  refine Rf.fn (o := p_taut v_start v_gates v_end) (e := (e2 (eL (e2 eI eI)) (eL eI))) (hp := (fun _ : ((List (Int × Int)) × (List Int)) => h)) (s := [.val ((e2 eI eI) v_start), .val ((eL (e2 (e2 eI eI) (e2 eI eI))) v_gates), .val ((e2 eI eI) v_end), .no, .no, .no]) rfl rfl ?_ hr
  unfold p_taut b_taut
  refine Rf.ownT (t := [v_start]) (e2 eI eI) (ev_disp (ev_args (ev_var rfl) ev_args0 rfl)) (Nat.le_of_ble_eq_true rfl) (fun _ => (sl_s (sl_s (sl_s sl_z)))) fun v_points1 => ?_
  refine Rf.own0 (ds := List.map eI ([] : List Int)) (ev_disp ev_args0) (Nat.le_of_ble_eq_true rfl) (sl_s (sl_s (sl_s (sl_s sl_z)))) ?_
  refine Rf.bd fun t2 h_t2 => ?_
  refine Rf.set0 (d := (eO (e2 (e2 eI eI) eI)) t2) (ev_call (ev_args (ev_var rfl) (ev_args (ev_var rfl) (ev_args ev_c (ev_args (ev_var rfl) ev_args0 rfl) rfl) rfl) rfl) (q_next_bend _ h_t2)) (by first | rfl | exact pureO (fun _ => rfl) _) (sl_s (sl_s (sl_s (sl_s (sl_s sl_z))))) ?_
  refine Rf.thnX (fun (s3 : (List (Int × Int)) × (List Int) × (Option ((Int × Int) × Int))) z' => z' = ⟨[.val ((e2 eI eI) v_start), .val ((eL (e2 (e2 eI eI) (e2 eI eI))) v_gates), .val ((e2 eI eI) v_end), .own (.lst (List.map (e2 eI eI) s3.1)), .own (.lst (List.map eI s3.2.1)), .val ((eO (e2 (e2 eI eI) eI)) s3.2.2)], h⟩) (fun (r : ((List (Int × Int)) × (List Int))) f z' => (f = .rt ((e2 (eL (e2 eI eI)) (eL eI)) r) ∨ (f = .nx ∧ (e2 (eL (e2 eI eI)) (eL eI)) r = .non)) ∧ z'.h = (fun _ : ((List (Int × Int)) × (List Int)) => h) r) (Rf.whO (v := (v_points1, ([] : List Int), t2)) (fun (s3 : (List (Int × Int)) × (List Int) × (Option ((Int × Int) × Int))) z' => z' = ⟨[.val ((e2 eI eI) v_start), .val ((eL (e2 (e2 eI eI) (e2 eI eI))) v_gates), .val ((e2 eI eI) v_end), .own (.lst (List.map (e2 eI eI) s3.1)), .own (.lst (List.map eI s3.2.1)), .val ((eO (e2 (e2 eI eI) eI)) s3.2.2)], h⟩) (fun (r : ((List (Int × Int)) × (List Int))) f z' => (f = .rt ((e2 (eL (e2 eI eI)) (eL eI)) r) ∨ (f = .nx ∧ (e2 (eL (e2 eI eI)) (eL eI)) r = .non)) ∧ z'.h = (fun _ : ((List (Int × Int)) × (List Int)) => h) r) ?_ ?_ rfl) ?_ ?_
  · rintro s3 _ ⟨rfl⟩ p hp
    cases hp; exact ⟨_, (tv (ev_notN (ev_var rfl) (notNonE (fun _ => rfl) _))), rfl⟩
  · rintro s3 _ ⟨rfl⟩
    refine Rf.bd fun t5 h_t5 => ?_
    refine Rf.app (xs := s3.1) (t := t5.1) (e2 eI eI) rfl (ev_ix (ev_unO (ev_var rfl) h_t5) ev_c rfl rfl) rfl (fun _ => (sl_s (sl_s (sl_s sl_z)))) fun v_points6 => ?_
    refine Rf.bd fun t7 h_t7 => ?_
    refine Rf.app (xs := s3.2.1) (t := t7.2) eI rfl (ev_ix (ev_unO (ev_var rfl) h_t7) ev_c rfl rfl) rfl (fun _ => (sl_s (sl_s (sl_s (sl_s sl_z))))) fun v_bends8 => ?_
    refine Rf.last ?_
    refine Rf.bd fun t9 h_t9 => ?_
    refine Rf.bd fun t10 h_t10 => ?_
    refine Rf.bd fun t11 h_t11 => ?_
    refine Rf.set0 (d := (eO (e2 (e2 eI eI) eI)) t11) (ev_call (ev_args (ev_ix (ev_unO (ev_var rfl) h_t9) ev_c rfl rfl) (ev_args (ev_var rfl) (ev_args (ev_add (ev_ix (ev_unO (ev_var rfl) h_t10) ev_c rfl rfl) ev_c) (ev_args (ev_var rfl) ev_args0 rfl) rfl) rfl) rfl) (q_next_bend _ h_t11)) (by first | rfl | exact pureO (fun _ => rfl) _) (sl_s (sl_s (sl_s (sl_s (sl_s sl_z))))) ?_
    exact Rf.fin ⟨.inl rfl, rfl⟩
  · rintro s3 _ ⟨rfl⟩
    refine Rf.bd fun t12 h_t12 => ?_
    refine Rf.thn (β := (List (Int × Int))) (fun j13 z' => z' = ⟨[.val ((e2 eI eI) v_start), .val ((eL (e2 (e2 eI eI) (e2 eI eI))) v_gates), .val ((e2 eI eI) v_end), .own (.lst (List.map (e2 eI eI) j13)), .own (.lst (List.map eI s3.2.1)), .val ((eO (e2 (e2 eI eI) eI)) s3.2.2)], h⟩) ?_ ?_
    · refine Rf.last ?_
      refine Rf.ite (tv (ev_ne (ev_ixP (e := (e2 eI eI)) (ev_varO rfl) (ev_neg ev_c) rfl h_t12) (ev_var rfl) (EqN.eqP (e := (e2 eI eI)) (EqN.t2 EqN.I EqN.I) (by decide) t12 v_end _ rfl rfl))) ?_ ?_
      · refine Rf.app (xs := s3.1) (t := v_end) (e2 eI eI) rfl (ev_var rfl) rfl (fun _ => (sl_s (sl_s (sl_s sl_z)))) fun v_points14 => ?_
        exact Rf.fin ⟨rfl, rfl⟩
      · refine Rf.skip ?_
        exact Rf.fin ⟨rfl, rfl⟩
    · rintro j13 _ ⟨rfl⟩
      refine Rf.frz rfl (sl_s (sl_s (sl_s sl_z))) ?_
      refine Rf.frz rfl (sl_s (sl_s (sl_s (sl_s sl_z)))) ?_
      refine Rf.last ?_
      refine Rf.bd fun t15 h_t15 => ?_
      exact Rf.ret (ev_call (ev_args (ev_var rfl) (ev_args (ev_var rfl) ev_args0 rfl) rfl) (q_without_straight _ h_t15)) rfl ⟨.inl rfl, rfl⟩
  · intro r r' f z' hk; cases hk
def p_law_on (v_ends : ((Int × Int) × (Int × Int))) (v_scale : Int) : Option (List (Int × Int)) :=
  (some ((if (if (v_ends.2.2 - v_ends.1.2) < 0 then -(v_ends.2.2 - v_ends.1.2) else (v_ends.2.2 - v_ends.1.2)) > (if (v_ends.2.1 - v_ends.1.1) < 0 then -(v_ends.2.1 - v_ends.1.1) else (v_ends.2.1 - v_ends.1.1)) then (if (v_ends.2.2 - v_ends.1.2) < 0 then -(v_ends.2.2 - v_ends.1.2) else (v_ends.2.2 - v_ends.1.2)) else (if (v_ends.2.1 - v_ends.1.1) < 0 then -(v_ends.2.1 - v_ends.1.1) else (v_ends.2.1 - v_ends.1.1))))).bind fun v_many1 =>
  (Pl.mul (2 : Int) (if (decide (v_ends.2.1 < v_ends.1.1)) then (1 : Int) else 0)).bind fun t2 =>
  (Pl.mul (if (!decide (v_ends.1.1 = v_ends.2.1)) then (1 : Int) else 0) ((1 : Int) - t2)).bind fun t3 =>
  (Pl.mul (2 : Int) (if (decide (v_ends.2.2 < v_ends.1.2)) then (1 : Int) else 0)).bind fun t4 =>
  (Pl.mul (if (!decide (v_ends.1.2 = v_ends.2.2)) then (1 : Int) else 0) ((1 : Int) - t4)).bind fun t5 =>
  (some ([t3, t5])).bind fun v_steps6 =>
  (Pl.mul v_many1 v_scale).bind fun t7 =>
  (Pl.rngO 0 (t7 + (1 : Int))).bind fun t8 =>
  (Pl.comp (fun (x9 : Int) => (some true)) (fun (x9 : Int) => ((Pl.mul v_scale v_ends.1.1).bind fun t10 => (Pl.at_ v_steps6 (0 : Int)).bind fun t11 => (Pl.mul x9 t11).bind fun t12 => (Pl.mul v_scale v_ends.1.2).bind fun t13 => (Pl.at_ v_steps6 (1 : Int)).bind fun t14 => (Pl.mul x9 t14).bind fun t15 => some ((t10 + t12), (t13 + t15)))) t8).bind fun t16 =>
  some t16
theorem q_law_on {v_ends : ((Int × Int) × (Int × Int))} {v_scale : Int} (h : List D) {r : (List (Int × Int))} (hr : p_law_on v_ends v_scale = some r) : m_law_on [(e2 (e2 eI eI) (e2 eI eI)) v_ends, eI v_scale] h = some ((eL (e2 eI eI)) r, h) := by
  refine Rf.fn (o := p_law_on v_ends v_scale) (e := (eL (e2 eI eI))) (hp := (fun _ : (List (Int × Int)) => h)) (s := [.val ((e2 (e2 eI eI) (e2 eI eI)) v_ends), .val (eI v_scale), .no, .no, .no, .no, .no, .no, .no]) rfl rfl ?_ hr
  unfold p_law_on b_law_on
  refine Rf.asg0 (d := (e2 (e2 eI eI) (e2 eI eI)) v_ends) (ev_var rfl) rfl (gr_tp (gr_cons (gr_tp (gr_cons (gr_nm (sl_s (sl_s sl_z))) (gr_cons (gr_nm (sl_s (sl_s (sl_s sl_z)))) gr_nil))) (gr_cons (gr_tp (gr_cons (gr_nm (sl_s (sl_s (sl_s (sl_s sl_z))))) (gr_cons (gr_nm (sl_s (sl_s (sl_s (sl_s (sl_s sl_z)))))) gr_nil))) gr_nil))) ?_
  refine Rf.setT (t := (if (if (v_ends.2.2 - v_ends.1.2) < 0 then -(v_ends.2.2 - v_ends.1.2) else (v_ends.2.2 - v_ends.1.2)) > (if (v_ends.2.1 - v_ends.1.1) < 0 then -(v_ends.2.1 - v_ends.1.1) else (v_ends.2.1 - v_ends.1.1)) then (if (v_ends.2.2 - v_ends.1.2) < 0 then -(v_ends.2.2 - v_ends.1.2) else (v_ends.2.2 - v_ends.1.2)) else (if (v_ends.2.1 - v_ends.1.1) < 0 then -(v_ends.2.1 - v_ends.1.1) else (v_ends.2.1 - v_ends.1.1)))) eI (ev_blt2 (ev_args (ev_blt1 (ev_sub (ev_var rfl) (ev_var rfl)) lf_abs) (ev_args (ev_blt1 (ev_sub (ev_var rfl) (ev_var rfl)) lf_abs) ev_args0 rfl) rfl) lf_max2) (fun _ => rfl) (fun _ => (sl_s (sl_s (sl_s (sl_s (sl_s (sl_s sl_z))))))) fun v_many1 => ?_
  refine Rf.bd fun t2 h_t2 => ?_
  refine Rf.bd fun t3 h_t3 => ?_
  refine Rf.bd fun t4 h_t4 => ?_
  refine Rf.bd fun t5 h_t5 => ?_
  refine Rf.setT (t := [t3, t5]) (eL eI) (ev_frz (ev_disp (ev_args (ev_mulP (ev_intB (ev_neI (ev_var rfl) (ev_var rfl))) (ev_sub ev_c (ev_mulP ev_c (ev_intB (ev_lt (ev_var rfl) (ev_var rfl))) h_t2)) h_t3) (ev_args (ev_mulP (ev_intB (ev_neI (ev_var rfl) (ev_var rfl))) (ev_sub ev_c (ev_mulP ev_c (ev_intB (ev_lt (ev_var rfl) (ev_var rfl))) h_t4)) h_t5) ev_args0 rfl) rfl))) (fun _ => rfl) (fun _ => (sl_s (sl_s (sl_s (sl_s (sl_s (sl_s (sl_s sl_z)))))))) fun v_steps6 => ?_
  refine Rf.last ?_
  refine Rf.bd fun t7 h_t7 => ?_
  refine Rf.bd fun t8 h_t8 => ?_
  refine Rf.bd fun t16 h_t16 => ?_
  exact Rf.ret (ev_frz (ev_cmp eI (e2 eI eI) (s := [.val ((e2 (e2 eI eI) (e2 eI eI)) v_ends), .val (eI v_scale), .val (eI v_ends.1.1), .val (eI v_ends.1.2), .val (eI v_ends.2.1), .val (eI v_ends.2.2), .val (eI v_many1), .val ((eL eI) v_steps6), .no]) (s' := [.val ((e2 (e2 eI eI) (e2 eI eI)) v_ends), .val (eI v_scale), .val (eI v_ends.1.1), .val (eI v_ends.1.2), .val (eI v_ends.2.1), .val (eI v_ends.2.2), .val (eI v_many1), .val ((eL eI) v_steps6), .no]) (s2 := [.val ((e2 (e2 eI eI) (e2 eI eI)) v_ends), .val (eI v_scale), .val (eI v_ends.1.1), .val (eI v_ends.1.2), .val (eI v_ends.2.1), .val (eI v_ends.2.2), .val (eI v_many1), .val ((eL eI) v_steps6), .no]) (ev_rngP1 (ev_add (ev_mulP (ev_var rfl) (ev_var rfl) h_t7) ev_c) h_t8) rfl rfl rfl rfl (fun x9 => ⟨_, _, (gr_nm (sl_s (sl_s (sl_s (sl_s (sl_s (sl_s (sl_s (sl_s sl_z))))))))), fun b hb => by cases hb; exact ev_true, rfl, fun y hy => by obtain ⟨t10, h_t10, hy⟩ := bI hy; obtain ⟨t11, h_t11, hy⟩ := bI hy; obtain ⟨t12, h_t12, hy⟩ := bI hy; obtain ⟨t13, h_t13, hy⟩ := bI hy; obtain ⟨t14, h_t14, hy⟩ := bI hy; obtain ⟨t15, h_t15, hy⟩ := bI hy; cases hy; exact ⟨_, (ev_tup (ev_args (ev_add (ev_mulP (ev_var rfl) (ev_var rfl) h_t10) (ev_mulP (ev_var rfl) (ev_ixP (e := eI) (ev_var rfl) ev_c rfl h_t11) h_t12)) (ev_args (ev_add (ev_mulP (ev_var rfl) (ev_var rfl) h_t13) (ev_mulP (ev_var rfl) (ev_ixP (e := eI) (ev_var rfl) ev_c rfl h_t14) h_t15)) ev_args0 rfl) rfl)), rfl, rfl⟩⟩) h_t16)) rfl ⟨.inl rfl, rfl⟩
def p_law_strings (v_start : (Int × Int)) (v_gates : (List ((Int × Int) × (Int × Int)))) (v_end : (Int × Int)) (s : DS) : Option ((List (List (Int × Int))) × DS) :=
  (Pl.mul (2 : Int) v_start.1).bind fun t1 =>
  (Pl.mul (2 : Int) v_start.2).bind fun t2 =>
  (some ([[(t1, t2)]])).bind fun v_rows3 =>
  (Pl.forN (fun (x9 : ((Int × Int) × (Int × Int))) (s4 : (List (List (Int × Int))) × DS) =>
  (p_law_on x9 (2 : Int)).bind fun t10 =>
  (Pl.mul (s4.1.length : Int) (t10.length : Int)).bind fun t11 =>
  ((if (decide ((300 : Int) < t11)) = true then
  (some ([x9.1, x9.2])).bind fun v_points13 =>
  (Pl.comp (fun (x14 : (Int × Int)) => (some true)) (fun (x14 : (Int × Int)) => ((Pl.mul (2 : Int) x14.1).bind fun t15 => (Pl.mul (2 : Int) x14.2).bind fun t16 => some (t15, t16))) v_points13).bind fun t17 =>
  (p_law_on x9 (2 : Int)).bind fun t18 =>
  (p_law_pick_v2 t18 s4.2).bind fun t19 =>
  (Pl.cat t17 [t19.1]).bind fun t20 =>
  some (t20, t19.2)
  else
  some (t10, s4.2)) : Option ((List (Int × Int)) × DS)).bind fun j12 =>
  (Pl.forN (fun (x23 : (List (Int × Int))) (s21 : (List (List (Int × Int)))) =>
  (Pl.comp (fun (x24 : (Int × Int)) => (some true)) (fun (x24 : (Int × Int)) => ((Pl.cat x23 [x24]).bind fun t25 => some t25)) j12.1).bind fun t26 =>
  (Pl.cat s21 t26).bind fun t27 =>
  some (t27)) s4.1 (([] : List (List (Int × Int))))).bind fun (s21 : (List (List (Int × Int)))) =>
  (some ((N.cutL s21 none (some (600 : Int))))).bind fun v_rows28 =>
  some (v_rows28, j12.2)) v_gates (v_rows3, s)).bind fun (s4 : (List (List (Int × Int))) × DS) =>
  (Pl.comp (fun (x29 : (List (Int × Int))) => (some true)) (fun (x29 : (List (Int × Int))) => ((Pl.mul (2 : Int) v_end.1).bind fun t30 => (Pl.mul (2 : Int) v_end.2).bind fun t31 => (Pl.cat x29 [(t30, t31)]).bind fun t32 => some t32)) s4.1).bind fun t33 =>
  some (t33, s4.2)
theorem q_law_strings {v_start : (Int × Int)} {v_gates : (List ((Int × Int) × (Int × Int)))} {v_end : (Int × Int)} {s : DS} (tl : List D) {r : ((List (List (Int × Int))) × DS)} (hr : p_law_strings v_start v_gates v_end s = some r) : m_law_strings [.ref 1, (e2 eI eI) v_start, (eL (e2 (e2 eI eI) (e2 eI eI))) v_gates, (e2 eI eI) v_end] (stT s tl) = some ((eL (eL (e2 eI eI))) r.1, stT r.2 tl) := by
  refine Rf.fn (o := p_law_strings v_start v_gates v_end s) (e := (fun r : ((List (List (Int × Int))) × DS) => (eL (eL (e2 eI eI))) r.1)) (hp := (fun r : ((List (List (Int × Int))) × DS) => stT r.2 tl)) (s := [.val (.ref 1), .val ((e2 eI eI) v_start), .val ((eL (e2 (e2 eI eI) (e2 eI eI))) v_gates), .val ((e2 eI eI) v_end), .no, .no, .no, .no, .no, .no, .no, .no]) rfl rfl ?_ hr
  unfold p_law_strings b_law_strings
  refine Rf.bd fun t1 h_t1 => ?_
  refine Rf.bd fun t2 h_t2 => ?_
  refine Rf.setT (t := [[(t1, t2)]]) (eL (eL (e2 eI eI))) (ev_frz (ev_disp (ev_args (ev_frz (ev_disp (ev_args (ev_tup (ev_args (ev_mulP ev_c (ev_ix (ev_var rfl) ev_c rfl rfl) h_t1) (ev_args (ev_mulP ev_c (ev_ix (ev_var rfl) ev_c rfl rfl) h_t2) ev_args0 rfl) rfl)) ev_args0 rfl))) ev_args0 rfl))) (fun _ => rfl) (fun _ => (sl_s (sl_s (sl_s (sl_s sl_z))))) fun v_rows3 => ?_
  refine Rf.thn (fun (s4 : (List (List (Int × Int))) × DS) z' => ∃ X5 : Option D, ∃ X6 : Option D, ∃ X7 : Option D, ∃ X8 : Option D, z' = ⟨[.val (.ref 1), .val ((e2 eI eI) v_start), .val ((eL (e2 (e2 eI eI) (e2 eI eI))) v_gates), .val ((e2 eI eI) v_end), .val ((eL (eL (e2 eI eI))) s4.1), (sv X5), (sv X6), .no, .no, (sv X7), (sv X8), .no], (stT s4.2 tl)⟩) (Rf.forN (xs := v_gates) (v := (v_rows3, s)) (e2 (e2 eI eI) (e2 eI eI)) (fun (s4 : (List (List (Int × Int))) × DS) z' => ∃ X5 : Option D, ∃ X6 : Option D, ∃ X7 : Option D, ∃ X8 : Option D, z' = ⟨[.val (.ref 1), .val ((e2 eI eI) v_start), .val ((eL (e2 (e2 eI eI) (e2 eI eI))) v_gates), .val ((e2 eI eI) v_end), .val ((eL (eL (e2 eI eI))) s4.1), (sv X5), (sv X6), .no, .no, (sv X7), (sv X8), .no], (stT s4.2 tl)⟩) (ev_itsP (e := (e2 (e2 eI eI) (e2 eI eI))) (xs := v_gates) (ev_var rfl) rfl) ⟨none, none, none, none, rfl⟩ fun x9 s4 z' hz => ?_) ?_
  · obtain ⟨X5, X6, X7, X8, rfl⟩ := hz
    refine ⟨_, (gr_nm (sl_s (sl_s (sl_s (sl_s (sl_s sl_z)))))), ?_⟩
    refine Rf.bd fun t10 h_t10 => ?_
    refine Rf.set0 (d := (eL (e2 eI eI)) t10) (ev_call (ev_args (ev_var rfl) (ev_args ev_c ev_args0 rfl) rfl) (q_law_on _ h_t10)) rfl (sl_s (sl_s (sl_s (sl_s (sl_s (sl_s sl_z)))))) ?_
    refine Rf.bd fun t11 h_t11 => ?_
    refine Rf.thn (β := (List (Int × Int)) × DS) (fun j12 z' => z' = ⟨[.val (.ref 1), .val ((e2 eI eI) v_start), .val ((eL (e2 (e2 eI eI) (e2 eI eI))) v_gates), .val ((e2 eI eI) v_end), .val ((eL (eL (e2 eI eI))) s4.1), .val ((e2 (e2 eI eI) (e2 eI eI)) x9), .val ((eL (e2 eI eI)) j12.1), .no, .no, (sv X7), (sv X8), .no], (stT j12.2 tl)⟩) ?_ ?_
    · refine Rf.last ?_
      refine Rf.ite (tv (ev_gt (ev_mulP (ev_blt1 (ev_var rfl) (F_lenM (e := (eL (e2 eI eI))) rfl)) (ev_blt1 (ev_var rfl) (F_lenM (e := (e2 eI eI)) rfl)) h_t11) ev_c)) ?_ ?_
      · refine Rf.assoc ?_
        refine Rf.setT (t := [x9.1, x9.2]) (eL (e2 eI eI)) (ev_frz (ev_disp (ev_args (ev_ix (ev_var rfl) ev_c rfl rfl) (ev_args (ev_ix (ev_var rfl) ev_c rfl rfl) ev_args0 rfl) rfl))) (fun _ => rfl) (fun _ => (sl_s (sl_s (sl_s (sl_s (sl_s (sl_s sl_z))))))) fun v_points13 => ?_
        refine Rf.bd fun t17 h_t17 => ?_
        refine Rf.bd fun t18 h_t18 => ?_
        refine Rf.bd fun t19 h_t19 => ?_
        refine Rf.bd fun t20 h_t20 => ?_
        refine Rf.set0 (d := (eL (e2 eI eI)) t20) (ev_frz (ev_catP (e := (e2 eI eI)) (ev_frz (ev_cmp (e2 eI eI) (e2 eI eI) (s := [.val (.ref 1), .val ((e2 eI eI) v_start), .val ((eL (e2 (e2 eI eI) (e2 eI eI))) v_gates), .val ((e2 eI eI) v_end), .val ((eL (eL (e2 eI eI))) s4.1), .val ((e2 (e2 eI eI) (e2 eI eI)) x9), .val ((eL (e2 eI eI)) v_points13), .no, .no, (sv X7), (sv X8), .no]) (s' := [.val (.ref 1), .val ((e2 eI eI) v_start), .val ((eL (e2 (e2 eI eI) (e2 eI eI))) v_gates), .val ((e2 eI eI) v_end), .val ((eL (eL (e2 eI eI))) s4.1), .val ((e2 (e2 eI eI) (e2 eI eI)) x9), .val ((eL (e2 eI eI)) v_points13), .no, .no, (sv X7), (sv X8), .no]) (s2 := [.val (.ref 1), .val ((e2 eI eI) v_start), .val ((eL (e2 (e2 eI eI) (e2 eI eI))) v_gates), .val ((e2 eI eI) v_end), .val ((eL (eL (e2 eI eI))) s4.1), .val ((e2 (e2 eI eI) (e2 eI eI)) x9), .val ((eL (e2 eI eI)) v_points13), .no, .no, (sv X7), (sv X8), .no]) (ev_itsC (e := (e2 eI eI)) (xs := v_points13) (ev_var rfl) rfl) rfl rfl rfl rfl (fun x14 => ⟨_, _, (gr_tp (gr_cons (gr_nm (sl_s (sl_s (sl_s (sl_s (sl_s (sl_s (sl_s sl_z)))))))) (gr_cons (gr_nm (sl_s (sl_s (sl_s (sl_s (sl_s (sl_s (sl_s (sl_s sl_z))))))))) gr_nil))), fun b hb => by cases hb; exact ev_true, rfl, fun y hy => by obtain ⟨t15, h_t15, hy⟩ := bI hy; obtain ⟨t16, h_t16, hy⟩ := bI hy; cases hy; exact ⟨_, (ev_tup (ev_args (ev_mulP ev_c (ev_var rfl) h_t15) (ev_args (ev_mulP ev_c (ev_var rfl) h_t16) ev_args0 rfl) rfl)), rfl, rfl⟩⟩) h_t17)) (ev_frz (ev_disp (ev_args (ev_call (ev_args (ev_var rfl) (ev_args (ev_call (ev_args (ev_var rfl) (ev_args ev_c ev_args0 rfl) rfl) (q_law_on _ h_t18)) ev_args0 rfl) rfl) (q_law_pick_v2 tl h_t19)) ev_args0 rfl))) rfl rfl rfl rfl h_t20)) rfl (sl_s (sl_s (sl_s (sl_s (sl_s (sl_s sl_z)))))) ?_
        exact Rf.fin ⟨rfl, rfl⟩
      · refine Rf.skip ?_
        exact Rf.fin ⟨rfl, rfl⟩
    · rintro j12 _ ⟨rfl⟩
      refine Rf.set0 (d := (eL (eL (e2 eI eI))) ([] : List (List (Int × Int)))) (ev_frz (ev_disp ev_args0)) rfl (sl_s (sl_s (sl_s (sl_s (sl_s (sl_s (sl_s (sl_s (sl_s sl_z))))))))) ?_
      refine Rf.thn (fun (s21 : (List (List (Int × Int)))) z' => ∃ X22 : Option D, z' = ⟨[.val (.ref 1), .val ((e2 eI eI) v_start), .val ((eL (e2 (e2 eI eI) (e2 eI eI))) v_gates), .val ((e2 eI eI) v_end), .val ((eL (eL (e2 eI eI))) s4.1), .val ((e2 (e2 eI eI) (e2 eI eI)) x9), .val ((eL (e2 eI eI)) j12.1), .no, .no, .val ((eL (eL (e2 eI eI))) s21), (sv X22), .no], (stT j12.2 tl)⟩) (Rf.forN (xs := s4.1) (v := (([] : List (List (Int × Int))))) (eL (e2 eI eI)) (fun (s21 : (List (List (Int × Int)))) z' => ∃ X22 : Option D, z' = ⟨[.val (.ref 1), .val ((e2 eI eI) v_start), .val ((eL (e2 (e2 eI eI) (e2 eI eI))) v_gates), .val ((e2 eI eI) v_end), .val ((eL (eL (e2 eI eI))) s4.1), .val ((e2 (e2 eI eI) (e2 eI eI)) x9), .val ((eL (e2 eI eI)) j12.1), .no, .no, .val ((eL (eL (e2 eI eI))) s21), (sv X22), .no], (stT j12.2 tl)⟩) (ev_itsP (e := (eL (e2 eI eI))) (xs := s4.1) (ev_var rfl) rfl) ⟨X8, rfl⟩ fun x23 s21 z' hz => ?_) ?_
      · obtain ⟨X22, rfl⟩ := hz
        refine ⟨_, (gr_nm (sl_s (sl_s (sl_s (sl_s (sl_s (sl_s (sl_s (sl_s (sl_s (sl_s sl_z))))))))))), ?_⟩
        refine Rf.last ?_
        refine Rf.bd fun t26 h_t26 => ?_
        refine Rf.bd fun t27 h_t27 => ?_
        refine Rf.set0 (d := (eL (eL (e2 eI eI))) t27) (ev_frz (ev_catP (e := (eL (e2 eI eI))) (ev_var rfl) (ev_frz (ev_cmp (e2 eI eI) (eL (e2 eI eI)) (s := [.val (.ref 1), .val ((e2 eI eI) v_start), .val ((eL (e2 (e2 eI eI) (e2 eI eI))) v_gates), .val ((e2 eI eI) v_end), .val ((eL (eL (e2 eI eI))) s4.1), .val ((e2 (e2 eI eI) (e2 eI eI)) x9), .val ((eL (e2 eI eI)) j12.1), .no, .no, .val ((eL (eL (e2 eI eI))) s21), .val ((eL (e2 eI eI)) x23), .no]) (s' := [.val (.ref 1), .val ((e2 eI eI) v_start), .val ((eL (e2 (e2 eI eI) (e2 eI eI))) v_gates), .val ((e2 eI eI) v_end), .val ((eL (eL (e2 eI eI))) s4.1), .val ((e2 (e2 eI eI) (e2 eI eI)) x9), .val ((eL (e2 eI eI)) j12.1), .no, .no, .val ((eL (eL (e2 eI eI))) s21), .val ((eL (e2 eI eI)) x23), .no]) (s2 := [.val (.ref 1), .val ((e2 eI eI) v_start), .val ((eL (e2 (e2 eI eI) (e2 eI eI))) v_gates), .val ((e2 eI eI) v_end), .val ((eL (eL (e2 eI eI))) s4.1), .val ((e2 (e2 eI eI) (e2 eI eI)) x9), .val ((eL (e2 eI eI)) j12.1), .no, .no, .val ((eL (eL (e2 eI eI))) s21), .val ((eL (e2 eI eI)) x23), .no]) (ev_itsC (e := (e2 eI eI)) (xs := j12.1) (ev_var rfl) rfl) rfl rfl rfl rfl (fun x24 => ⟨_, _, (gr_nm (sl_s (sl_s (sl_s (sl_s (sl_s (sl_s (sl_s (sl_s (sl_s (sl_s (sl_s sl_z)))))))))))), fun b hb => by cases hb; exact ev_true, rfl, fun y hy => by obtain ⟨t25, h_t25, hy⟩ := bI hy; cases hy; exact ⟨_, (ev_frz (ev_catP (e := (e2 eI eI)) (ev_var rfl) (ev_frz (ev_disp (ev_args (ev_var rfl) ev_args0 rfl))) rfl rfl rfl rfl h_t25)), rfl, rfl⟩⟩) h_t26)) rfl rfl rfl rfl h_t27)) rfl (sl_s (sl_s (sl_s (sl_s (sl_s (sl_s (sl_s (sl_s (sl_s sl_z))))))))) ?_
        exact Rf.fin ⟨.inl rfl, (some ((eL (e2 eI eI)) x23)), rfl⟩
      · rintro s21 _ ⟨X22, rfl⟩
        refine Rf.last ?_
        refine Rf.setT (t := (N.cutL s21 none (some (600 : Int)))) (eL (eL (e2 eI eI))) (ev_frz (ev_sliceP (e := (eL (e2 eI eI))) (ev_var rfl) ev_part0 (ev_part ev_c) rfl)) (fun _ => rfl) (fun _ => (sl_s (sl_s (sl_s (sl_s sl_z))))) fun v_rows28 => ?_
        exact Rf.fin ⟨.inl rfl, (some ((e2 (e2 eI eI) (e2 eI eI)) x9)), (some ((eL (e2 eI eI)) j12.1)), (some ((eL (eL (e2 eI eI))) s21)), X22, rfl⟩
  · rintro s4 _ ⟨X5, X6, X7, X8, rfl⟩
    refine Rf.last ?_
    refine Rf.bd fun t33 h_t33 => ?_
    exact Rf.ret (ev_frz (ev_cmp (eL (e2 eI eI)) (eL (e2 eI eI)) (s := [.val (.ref 1), .val ((e2 eI eI) v_start), .val ((eL (e2 (e2 eI eI) (e2 eI eI))) v_gates), .val ((e2 eI eI) v_end), .val ((eL (eL (e2 eI eI))) s4.1), (sv X5), (sv X6), .no, .no, (sv X7), (sv X8), .no]) (s' := [.val (.ref 1), .val ((e2 eI eI) v_start), .val ((eL (e2 (e2 eI eI) (e2 eI eI))) v_gates), .val ((e2 eI eI) v_end), .val ((eL (eL (e2 eI eI))) s4.1), (sv X5), (sv X6), .no, .no, (sv X7), .no, .no]) (s2 := [.val (.ref 1), .val ((e2 eI eI) v_start), .val ((eL (e2 (e2 eI eI) (e2 eI eI))) v_gates), .val ((e2 eI eI) v_end), .val ((eL (eL (e2 eI eI))) s4.1), (sv X5), (sv X6), .no, .no, (sv X7), (sv X8), .no]) (ev_itsC (e := (eL (e2 eI eI))) (xs := s4.1) (ev_var rfl) rfl) (by cases X8 <;>  rfl) rfl rfl rfl (fun x29 => ⟨_, _, (gr_nm (sl_s (sl_s (sl_s (sl_s (sl_s (sl_s (sl_s (sl_s (sl_s (sl_s sl_z))))))))))), fun b hb => by cases hb; exact ev_true, rfl, fun y hy => by obtain ⟨t30, h_t30, hy⟩ := bI hy; obtain ⟨t31, h_t31, hy⟩ := bI hy; obtain ⟨t32, h_t32, hy⟩ := bI hy; cases hy; exact ⟨_, (ev_frz (ev_catP (e := (e2 eI eI)) (ev_var rfl) (ev_frz (ev_disp (ev_args (ev_tup (ev_args (ev_mulP ev_c (ev_ix (ev_var rfl) ev_c rfl rfl) h_t30) (ev_args (ev_mulP ev_c (ev_ix (ev_var rfl) ev_c rfl rfl) h_t31) ev_args0 rfl) rfl)) ev_args0 rfl))) rfl rfl rfl rfl h_t32)), rfl, rfl⟩⟩) h_t33)) rfl ⟨.inl rfl, rfl⟩
def p_law_root (v_number : Int) : Option Int :=
  (some ((v_number + (1 : Int)))).bind fun v_high1 =>
  ((Pl.whO (fun (s2 : Int × Int) => (some (decide ((1 : Int) < (s2.2 - s2.1))))) (fun (s2 : Int × Int) =>
  (Pl.div (s2.1 + s2.2) (2 : Int)).bind fun t5 =>
  (Pl.mul t5 t5).bind fun t6 =>
  ((if (decide (t6 ≤ v_number)) = true then
  some (t5, s2.2)
  else
  some (s2.1, t5)) : Option (Int × Int)).bind fun j7 =>
  some (.go (j7.1, j7.2))) ((0 : Int), v_high1)) : Option ((Int × Int) ⊕ Int)).bind (Pl.out (fun (s2 : Int × Int) =>
  some s2.1) (fun _ => none))
theorem q_law_root {v_number : Int} (h : List D) {r : Int} (hr : p_law_root v_number = some r) : m_law_root [eI v_number] h = some (eI r, h) := by
  refine Rf.fn (o := p_law_root v_number) (e := eI) (hp := (fun _ : Int => h)) (s := [.val (eI v_number), .no, .no, .no]) rfl rfl ?_ hr
  unfold p_law_root b_law_root
  refine Rf.set0 (d := eI (0 : Int)) ev_c rfl (sl_s sl_z) ?_
  refine Rf.setT (t := (v_number + (1 : Int))) eI (ev_add (ev_var rfl) ev_c) (fun _ => rfl) (fun _ => (sl_s (sl_s sl_z))) fun v_high1 => ?_
  refine Rf.thnX (fun (s2 : Int × Int) z' => ∃ X3 : Option D, z' = ⟨[.val (eI v_number), .val (eI s2.1), .val (eI s2.2), (sv X3)], h⟩) (fun (r : Int) f z' => (f = .rt (eI r) ∨ (f = .nx ∧ eI r = .non)) ∧ z'.h = (fun _ : Int => h) r) (Rf.whO (v := ((0 : Int), v_high1)) (fun (s2 : Int × Int) z' => ∃ X3 : Option D, z' = ⟨[.val (eI v_number), .val (eI s2.1), .val (eI s2.2), (sv X3)], h⟩) (fun (r : Int) f z' => (f = .rt (eI r) ∨ (f = .nx ∧ eI r = .non)) ∧ z'.h = (fun _ : Int => h) r) ?_ ?_ ⟨none, rfl⟩) ?_ ?_
  · rintro s2 _ ⟨X3, rfl⟩ p hp
    cases hp; exact ⟨_, (tv (ev_gt (ev_sub (ev_var rfl) (ev_var rfl)) ev_c)), X3, rfl⟩
  · rintro s2 _ ⟨X3, rfl⟩
    refine Rf.bd fun t5 h_t5 => ?_
    refine Rf.set0 (d := eI t5) (ev_divP (ev_add (ev_var rfl) (ev_var rfl)) ev_c h_t5) rfl (sl_s (sl_s (sl_s sl_z))) ?_
    refine Rf.last ?_
    refine Rf.bd fun t6 h_t6 => ?_
    refine Rf.thn (β := Int × Int) (fun j7 z' => z' = ⟨[.val (eI v_number), .val (eI j7.1), .val (eI j7.2), .val (eI t5)], h⟩) ?_ ?_
    · refine Rf.last ?_
      refine Rf.ite (tv (ev_le (ev_mulP (ev_var rfl) (ev_var rfl) h_t6) (ev_var rfl))) ?_ ?_
      · refine Rf.set0 (d := eI t5) (ev_var rfl) rfl (sl_s sl_z) ?_
        exact Rf.fin ⟨rfl, rfl⟩
      · refine Rf.set0 (d := eI t5) (ev_var rfl) rfl (sl_s (sl_s sl_z)) ?_
        exact Rf.fin ⟨rfl, rfl⟩
    · rintro j7 _ ⟨rfl⟩
      exact Rf.fin ⟨.inl rfl, (some (eI t5)), rfl⟩
  · rintro s2 _ ⟨X3, rfl⟩
    refine Rf.last ?_
    exact Rf.ret (ev_var rfl) rfl ⟨.inl rfl, rfl⟩
  · intro r r' f z' hk; cases hk
def p_law_length (v_points : (List (Int × Int))) (v_scale : Int) : Option (Int × Bool) :=
  (Pl.rngO 0 ((v_points.length : Int) - (1 : Int))).bind fun t1 =>
  (Pl.forN (fun (x7 : Int) (s2 : Int × Bool) =>
  (Pl.at_ v_points (x7 + (1 : Int))).bind fun t8 =>
  (Pl.at_ v_points x7).bind fun t9 =>
  (Pl.mul (t8.1 - t9.1) v_scale).bind fun t10 =>
  (Pl.at_ v_points (x7 + (1 : Int))).bind fun t11 =>
  (Pl.at_ v_points x7).bind fun t12 =>
  (Pl.mul (t11.2 - t12.2) v_scale).bind fun t13 =>
  (Pl.mul t10 t10).bind fun t14 =>
  (Pl.mul t13 t13).bind fun t15 =>
  (p_law_root (t14 + t15)).bind fun t16 =>
  (some ((s2.1 + t16))).bind fun v_low17 =>
  (Pl.andO s2.2 ((Pl.mul t16 t16).bind fun t18 => (Pl.mul t10 t10).bind fun t19 => (Pl.mul t13 t13).bind fun t20 => some (decide (t18 = (t19 + t20))))).bind fun t21 =>
  some (v_low17, t21)) t1 ((0 : Int), true)).bind fun (s2 : Int × Bool) =>
  some (s2.1, s2.2)
theorem q_law_length {v_points : (List (Int × Int))} {v_scale : Int} (h : List D) {r : (Int × Bool)} (hr : p_law_length v_points v_scale = some r) : m_law_length [(eL (e2 eI eI)) v_points, eI v_scale] h = some ((h2 eI eB) r, h) := by
  refine Rf.fn (o := p_law_length v_points v_scale) (e := (h2 eI eB)) (hp := (fun _ : (Int × Bool) => h)) (s := [.val ((eL (e2 eI eI)) v_points), .val (eI v_scale), .no, .no, .no, .no, .no, .no]) rfl rfl ?_ hr
  unfold p_law_length b_law_length
  refine Rf.set0 (d := eI (0 : Int)) ev_c rfl (sl_s (sl_s sl_z)) ?_
  refine Rf.set0 (d := eB true) ev_c rfl (sl_s (sl_s (sl_s sl_z))) ?_
  refine Rf.bd fun t1 h_t1 => ?_
  refine Rf.thn (fun (s2 : Int × Bool) z' => ∃ X3 : Option D, ∃ X4 : Option D, ∃ X5 : Option D, ∃ X6 : Option D, z' = ⟨[.val ((eL (e2 eI eI)) v_points), .val (eI v_scale), .val (eI s2.1), .val (eB s2.2), (sv X3), (sv X4), (sv X5), (sv X6)], h⟩) (Rf.forN (xs := t1) (v := ((0 : Int), true)) eI (fun (s2 : Int × Bool) z' => ∃ X3 : Option D, ∃ X4 : Option D, ∃ X5 : Option D, ∃ X6 : Option D, z' = ⟨[.val ((eL (e2 eI eI)) v_points), .val (eI v_scale), .val (eI s2.1), .val (eB s2.2), (sv X3), (sv X4), (sv X5), (sv X6)], h⟩) (ev_rngP1 (ev_sub (ev_blt1 (ev_var rfl) (F_lenM (e := (e2 eI eI)) rfl)) ev_c) h_t1) ⟨none, none, none, none, rfl⟩ fun x7 s2 z' hz => ?_) ?_
  · obtain ⟨X3, X4, X5, X6, rfl⟩ := hz
    refine ⟨_, (gr_nm (sl_s (sl_s (sl_s (sl_s sl_z))))), ?_⟩
    refine Rf.bd fun t8 h_t8 => ?_
    refine Rf.bd fun t9 h_t9 => ?_
    refine Rf.bd fun t10 h_t10 => ?_
    refine Rf.set0 (d := eI t10) (ev_mulP (ev_sub (ev_ix (ev_ixP (e := (e2 eI eI)) (ev_var rfl) (ev_add (ev_var rfl) ev_c) rfl h_t8) ev_c rfl rfl) (ev_ix (ev_ixP (e := (e2 eI eI)) (ev_var rfl) (ev_var rfl) rfl h_t9) ev_c rfl rfl)) (ev_var rfl) h_t10) rfl (sl_s (sl_s (sl_s (sl_s (sl_s sl_z))))) ?_
    refine Rf.bd fun t11 h_t11 => ?_
    refine Rf.bd fun t12 h_t12 => ?_
    refine Rf.bd fun t13 h_t13 => ?_
    refine Rf.set0 (d := eI t13) (ev_mulP (ev_sub (ev_ix (ev_ixP (e := (e2 eI eI)) (ev_var rfl) (ev_add (ev_var rfl) ev_c) rfl h_t11) ev_c rfl rfl) (ev_ix (ev_ixP (e := (e2 eI eI)) (ev_var rfl) (ev_var rfl) rfl h_t12) ev_c rfl rfl)) (ev_var rfl) h_t13) rfl (sl_s (sl_s (sl_s (sl_s (sl_s (sl_s sl_z)))))) ?_
    refine Rf.bd fun t14 h_t14 => ?_
    refine Rf.bd fun t15 h_t15 => ?_
    refine Rf.bd fun t16 h_t16 => ?_
    refine Rf.set0 (d := eI t16) (ev_call (ev_args (ev_add (ev_mulP (ev_var rfl) (ev_var rfl) h_t14) (ev_mulP (ev_var rfl) (ev_var rfl) h_t15)) ev_args0 rfl) (q_law_root _ h_t16)) rfl (sl_s (sl_s (sl_s (sl_s (sl_s (sl_s (sl_s sl_z))))))) ?_
    refine Rf.setT (t := (s2.1 + t16)) eI (ev_add (ev_var rfl) (ev_var rfl)) (fun _ => rfl) (fun _ => (sl_s (sl_s sl_z))) fun v_low17 => ?_
    refine Rf.last ?_
    refine Rf.bd fun t21 h_t21 => ?_
    refine Rf.set0 (d := eB t21) (ev_andO (ev_var rfl) (fun q hq => by obtain ⟨t18, h_t18, hq⟩ := bI hq; obtain ⟨t19, h_t19, hq⟩ := bI hq; obtain ⟨t20, h_t20, hq⟩ := bI hq; cases hq; exact (ev_eqI (ev_mulP (ev_var rfl) (ev_var rfl) h_t18) (ev_add (ev_mulP (ev_var rfl) (ev_var rfl) h_t19) (ev_mulP (ev_var rfl) (ev_var rfl) h_t20)))) h_t21) rfl (sl_s (sl_s (sl_s sl_z))) ?_
    exact Rf.fin ⟨.inl rfl, (some (eI x7)), (some (eI t10)), (some (eI t13)), (some (eI t16)), rfl⟩
  · rintro s2 _ ⟨X3, X4, X5, X6, rfl⟩
    refine Rf.last ?_
    exact Rf.ret (ev_frz (ev_disp (ev_args (ev_var rfl) (ev_args (ev_var rfl) ev_args0 rfl) rfl))) rfl ⟨.inl rfl, rfl⟩
def p_root (v_number : Int) : Option Int :=
  ((Pl.whO (fun (s1 : Int) => ((Pl.mul s1 s1).bind fun t3 => some (decide (t3 ≤ v_number)))) (fun (s1 : Int) =>
  (Pl.mul s1 (2 : Int)).bind fun t4 =>
  (some t4).bind fun v_high5 =>
  some (.go (v_high5))) ((1 : Int))) : Option ((Int) ⊕ Int)).bind (Pl.out (fun (s1 : Int) =>
  ((Pl.whO (fun (s6 : Int × Int) => (some (decide ((1 : Int) < (s6.2 - s6.1))))) (fun (s6 : Int × Int) =>
  (Pl.div (s6.1 + s6.2) (2 : Int)).bind fun t9 =>
  (Pl.mul t9 t9).bind fun t10 =>
  ((if (decide (t10 ≤ v_number)) = true then
  some (t9, s6.2)
  else
  some (s6.1, t9)) : Option (Int × Int)).bind fun j11 =>
  some (.go (j11.1, j11.2))) ((0 : Int), s1)) : Option ((Int × Int) ⊕ Int)).bind (Pl.out (fun (s6 : Int × Int) =>
  some s6.1) (fun _ => none))) (fun _ => none))
theorem q_root {v_number : Int} (h : List D) {r : Int} (hr : p_root v_number = some r) : m_root [eI v_number] h = some (eI r, h) := by
  refine Rf.fn (o := p_root v_number) (e := eI) (hp := (fun _ : Int => h)) (s := [.val (eI v_number), .no, .no, .no]) rfl rfl ?_ hr
  unfold p_root b_root
  refine Rf.set0 (d := eI (0 : Int)) ev_c rfl (sl_s sl_z) ?_
  refine Rf.set0 (d := eI (1 : Int)) ev_c rfl (sl_s (sl_s sl_z)) ?_
  refine Rf.thnX (fun (s1 : Int) z' => z' = ⟨[.val (eI v_number), .val (eI (0 : Int)), .val (eI s1), .no], h⟩) (fun (r : Int) f z' => (f = .rt (eI r) ∨ (f = .nx ∧ eI r = .non)) ∧ z'.h = (fun _ : Int => h) r) (Rf.whO (v := ((1 : Int))) (fun (s1 : Int) z' => z' = ⟨[.val (eI v_number), .val (eI (0 : Int)), .val (eI s1), .no], h⟩) (fun (r : Int) f z' => (f = .rt (eI r) ∨ (f = .nx ∧ eI r = .non)) ∧ z'.h = (fun _ : Int => h) r) ?_ ?_ rfl) ?_ ?_
  · rintro s1 _ ⟨rfl⟩ p hp
    obtain ⟨t3, h_t3, hp⟩ := bI hp; cases hp; exact ⟨_, (tv (ev_le (ev_mulP (ev_var rfl) (ev_var rfl) h_t3) (ev_var rfl))), rfl⟩
  · rintro s1 _ ⟨rfl⟩
    refine Rf.last ?_
    refine Rf.bd fun t4 h_t4 => ?_
    refine Rf.augT (t := t4) eI rfl ev_c (mulO_hg h_t4) (fun _ => rfl) (fun _ => (sl_s (sl_s sl_z))) fun v_high5 => ?_
    exact Rf.fin ⟨.inl rfl, rfl⟩
  · rintro s1 _ ⟨rfl⟩
    refine Rf.thnX (fun (s6 : Int × Int) z' => ∃ X7 : Option D, z' = ⟨[.val (eI v_number), .val (eI s6.1), .val (eI s6.2), (sv X7)], h⟩) (fun (r : Int) f z' => (f = .rt (eI r) ∨ (f = .nx ∧ eI r = .non)) ∧ z'.h = (fun _ : Int => h) r) (Rf.whO (v := ((0 : Int), s1)) (fun (s6 : Int × Int) z' => ∃ X7 : Option D, z' = ⟨[.val (eI v_number), .val (eI s6.1), .val (eI s6.2), (sv X7)], h⟩) (fun (r : Int) f z' => (f = .rt (eI r) ∨ (f = .nx ∧ eI r = .non)) ∧ z'.h = (fun _ : Int => h) r) ?_ ?_ ⟨none, rfl⟩) ?_ ?_
    · rintro s6 _ ⟨X7, rfl⟩ p hp
      cases hp; exact ⟨_, (tv (ev_gt (ev_sub (ev_var rfl) (ev_var rfl)) ev_c)), X7, rfl⟩
    · rintro s6 _ ⟨X7, rfl⟩
      refine Rf.bd fun t9 h_t9 => ?_
      refine Rf.set0 (d := eI t9) (ev_divP (ev_add (ev_var rfl) (ev_var rfl)) ev_c h_t9) rfl (sl_s (sl_s (sl_s sl_z))) ?_
      refine Rf.last ?_
      refine Rf.bd fun t10 h_t10 => ?_
      refine Rf.thn (β := Int × Int) (fun j11 z' => z' = ⟨[.val (eI v_number), .val (eI j11.1), .val (eI j11.2), .val (eI t9)], h⟩) ?_ ?_
      · refine Rf.last ?_
        refine Rf.ite (tv (ev_le (ev_mulP (ev_var rfl) (ev_var rfl) h_t10) (ev_var rfl))) ?_ ?_
        · refine Rf.set0 (d := eI t9) (ev_var rfl) rfl (sl_s sl_z) ?_
          exact Rf.fin ⟨rfl, rfl⟩
        · refine Rf.set0 (d := eI t9) (ev_var rfl) rfl (sl_s (sl_s sl_z)) ?_
          exact Rf.fin ⟨rfl, rfl⟩
      · rintro j11 _ ⟨rfl⟩
        exact Rf.fin ⟨.inl rfl, (some (eI t9)), rfl⟩
    · rintro s6 _ ⟨X7, rfl⟩
      refine Rf.last ?_
      exact Rf.ret (ev_var rfl) rfl ⟨.inl rfl, rfl⟩
    · intro r r' f z' hk; cases hk
  · intro r r' f z' hk; cases hk
def p_length_bounds (v_points : (List (Int × Int))) (v_scale : Int) : Option (Int × Int) :=
  (Pl.rngO 0 ((v_points.length : Int) - (1 : Int))).bind fun t1 =>
  (Pl.forN (fun (x6 : Int) (s2 : Int × Int) =>
  (Pl.at_ v_points x6).bind fun t7 =>
  (Pl.at_ v_points (x6 + (1 : Int))).bind fun t8 =>
  (p_distance t7 t8).bind fun t9 =>
  (Pl.mul t9 v_scale).bind fun t10 =>
  (Pl.mul t10 v_scale).bind fun t11 =>
  (p_root t11).bind fun t12 =>
  (some (s2.1 + t12)).bind fun v_low13 =>
  (Pl.mul t12 t12).bind fun t14 =>
  (some (s2.2 + (if (decide (t14 = t11)) = true then t12 else (t12 + (1 : Int))))).bind fun v_high15 =>
  some (v_low13, v_high15)) t1 ((0 : Int), (0 : Int))).bind fun (s2 : Int × Int) =>
  some (s2.1, s2.2)
theorem q_length_bounds {v_points : (List (Int × Int))} {v_scale : Int} (h : List D) {r : (Int × Int)} (hr : p_length_bounds v_points v_scale = some r) : m_length_bounds [(eL (e2 eI eI)) v_points, eI v_scale] h = some ((e2 eI eI) r, h) := by
  refine Rf.fn (o := p_length_bounds v_points v_scale) (e := (e2 eI eI)) (hp := (fun _ : (Int × Int) => h)) (s := [.val ((eL (e2 eI eI)) v_points), .val (eI v_scale), .no, .no, .no, .no, .no]) rfl rfl ?_ hr
  unfold p_length_bounds b_length_bounds
  refine Rf.set0 (d := eI (0 : Int)) ev_c rfl (sl_s (sl_s sl_z)) ?_
  refine Rf.set0 (d := eI (0 : Int)) ev_c rfl (sl_s (sl_s (sl_s sl_z))) ?_
  refine Rf.bd fun t1 h_t1 => ?_
  refine Rf.thn (fun (s2 : Int × Int) z' => ∃ X3 : Option D, ∃ X4 : Option D, ∃ X5 : Option D, z' = ⟨[.val ((eL (e2 eI eI)) v_points), .val (eI v_scale), .val (eI s2.1), .val (eI s2.2), (sv X3), (sv X4), (sv X5)], h⟩) (Rf.forN (xs := t1) (v := ((0 : Int), (0 : Int))) eI (fun (s2 : Int × Int) z' => ∃ X3 : Option D, ∃ X4 : Option D, ∃ X5 : Option D, z' = ⟨[.val ((eL (e2 eI eI)) v_points), .val (eI v_scale), .val (eI s2.1), .val (eI s2.2), (sv X3), (sv X4), (sv X5)], h⟩) (ev_rngP1 (ev_sub (ev_blt1 (ev_var rfl) (F_lenM (e := (e2 eI eI)) rfl)) ev_c) h_t1) ⟨none, none, none, rfl⟩ fun x6 s2 z' hz => ?_) ?_
  · obtain ⟨X3, X4, X5, rfl⟩ := hz
    refine ⟨_, (gr_nm (sl_s (sl_s (sl_s (sl_s sl_z))))), ?_⟩
    refine Rf.bd fun t7 h_t7 => ?_
    refine Rf.bd fun t8 h_t8 => ?_
    refine Rf.bd fun t9 h_t9 => ?_
    refine Rf.bd fun t10 h_t10 => ?_
    refine Rf.bd fun t11 h_t11 => ?_
    refine Rf.set0 (d := eI t11) (ev_mulP (ev_mulP (ev_call (ev_args (ev_ixP (e := (e2 eI eI)) (ev_var rfl) (ev_var rfl) rfl h_t7) (ev_args (ev_ixP (e := (e2 eI eI)) (ev_var rfl) (ev_add (ev_var rfl) ev_c) rfl h_t8) ev_args0 rfl) rfl) (q_distance _ h_t9)) (ev_var rfl) h_t10) (ev_var rfl) h_t11) rfl (sl_s (sl_s (sl_s (sl_s (sl_s sl_z))))) ?_
    refine Rf.bd fun t12 h_t12 => ?_
    refine Rf.set0 (d := eI t12) (ev_call (ev_args (ev_var rfl) ev_args0 rfl) (q_root _ h_t12)) rfl (sl_s (sl_s (sl_s (sl_s (sl_s (sl_s sl_z)))))) ?_
    refine Rf.augT (t := (s2.1 + t12)) eI rfl (ev_var rfl) rfl (fun _ => rfl) (fun _ => (sl_s (sl_s sl_z))) fun v_low13 => ?_
    refine Rf.last ?_
    refine Rf.bd fun t14 h_t14 => ?_
    refine Rf.augT (t := (s2.2 + (if (decide (t14 = t11)) = true then t12 else (t12 + (1 : Int))))) eI rfl (ev_iteE (e := eI) (v := t12) (w := (t12 + (1 : Int))) (tv (ev_eqI (ev_mulP (ev_var rfl) (ev_var rfl) h_t14) (ev_var rfl))) (ev_var rfl) (ev_add (ev_var rfl) ev_c)) rfl (fun _ => rfl) (fun _ => (sl_s (sl_s (sl_s sl_z)))) fun v_high15 => ?_
    exact Rf.fin ⟨.inl rfl, (some (eI x6)), (some (eI t11)), (some (eI t12)), rfl⟩
  · rintro s2 _ ⟨X3, X4, X5, rfl⟩
    refine Rf.last ?_
    exact Rf.ret (ev_tup (ev_args (ev_var rfl) (ev_args (ev_var rfl) ev_args0 rfl) rfl)) rfl ⟨.inl rfl, rfl⟩
noncomputable def p_law (s : DS) : Option (Bool × DS) :=
  (p_law_corridor (3 : Int) s).bind fun t1 =>
  (p_taut t1.1.1 t1.1.2.1 t1.1.2.2).bind fun t2 =>
  (Pl.mul (2 : Int) (1000000000 : Int)).bind fun t3 =>
  (p_law_length t2.1 t3).bind fun t4 =>
  (p_law_strings t1.1.1 t1.1.2.1 t1.1.2.2 t1.2).bind fun t5 =>
  ((Pl.forO (fun (x8 : (List (Int × Int))) (s6 : Unit) =>
  (p_law_length x8 (1000000000 : Int)).bind fun t9 =>
  (if (decide ((t9.1 + (x8.length : Int)) < t4.1)) = true then
  some (.ret (false, t5.2))
  else
  some (.go ()))) t5.1 ()) : Option ((Unit) ⊕ (Bool × DS))).bind (Pl.out (fun (s6 : Unit) =>
  (Pl.draw t5.2 (100000 : Int)).bind fun t10 =>
  ((Pl.forO (fun (x17 : Int) (s11 : Unit) =>
  (p_length_bounds t2.1 x17).bind fun t18 =>
  (p_law_length t2.1 x17).bind fun t19 =>
  (Pl.rngO 0 ((t2.1.length : Int) - (1 : Int))).bind fun t20 =>
  (Pl.comp (fun (x21 : Int) => (some true)) (fun (x21 : Int) => ((p_law_length (N.cutL t2.1 (some x21) (some (x21 + (2 : Int)))) x17).bind fun t22 => some t22)) t20).bind fun t23 =>
  (Pl.comp (fun (x24 : (Int × Bool)) => (some (!x24.2))) (fun (x24 : (Int × Bool)) => (some x24)) t23).bind fun t25 =>
  (some ((t19.1 + (t25.length : Int)))).bind fun v_up26 =>
  (if ((!true) || (!decide (t18 = (t19.1, v_up26)))) = true then
  some (.ret (false, t10.2))
  else
  some (.go ()))) [(1 : Int), (10 : Int), ((1 : Int) + t10.1)] ()) : Option ((Unit) ⊕ (Bool × DS))).bind (Pl.out (fun (s11 : Unit) =>
  some (true, t10.2)) (fun r => some r))) (fun r => some r))
theorem q_law {v_script : D} {s : DS} {r : Bool × DS} {h0 tl : List D} (hs : m_law_state [v_script] h0 = some (.ref 1, stT s tl)) (hr : p_law s = some r) (hp : isPure v_script = true) : m_law [v_script] h0 = some (.bl r.1, stT r.2 tl) := by
  refine Rf.fn (o := p_law s) (e := fun r : Bool × DS => .bl r.1) (hp := fun r : Bool × DS => stT r.2 tl) (s := [.val v_script, .no, .no, .no, .no, .no, .no, .no, .no, .no, .no, .no, .no, .no, .no, .no]) rfl rfl ?_ hr
  unfold b_law
  refine Rf.set0 (d := .ref 1) (s := [.val v_script, .no, .no, .no, .no, .no, .no, .no, .no, .no, .no, .no, .no, .no, .no, .no]) (h := stT s tl) (ev_call (ev_args (ev_var rfl) ev_args0 hp) hs) rfl (sl_s sl_z) ?_
  clear hs hr
  unfold p_law
  refine Rf.bd fun t1 h_t1 => ?_
  refine Rf.asg0 (d := (h3 (e2 eI eI) (eL (e2 (e2 eI eI) (e2 eI eI))) (e2 eI eI)) t1.1) (ev_call (ev_args (ev_var rfl) (ev_args ev_c ev_args0 rfl) rfl) (q_law_corridor tl h_t1)) rfl (gr_tl (gr_cons (gr_nm (sl_s (sl_s sl_z))) (gr_cons (gr_nm (sl_s (sl_s (sl_s sl_z)))) (gr_cons (gr_nm (sl_s (sl_s (sl_s (sl_s sl_z))))) gr_nil)))) ?_
  refine Rf.bd fun t2 h_t2 => ?_
  refine Rf.asg0 (d := (e2 (eL (e2 eI eI)) (eL eI)) t2) (ev_call (ev_args (ev_var rfl) (ev_args (ev_var rfl) (ev_args (ev_var rfl) ev_args0 rfl) rfl) rfl) (q_taut _ h_t2)) rfl (gr_tp (gr_cons (gr_nm (sl_s (sl_s (sl_s (sl_s (sl_s sl_z)))))) (gr_cons (gr_nm (sl_s (sl_s (sl_s (sl_s (sl_s (sl_s sl_z))))))) gr_nil))) ?_
  refine Rf.set0 (d := eI (1000000000 : Int)) ev_c rfl (sl_s (sl_s (sl_s (sl_s (sl_s (sl_s (sl_s sl_z))))))) ?_
  refine Rf.bd fun t3 h_t3 => ?_
  refine Rf.bd fun t4 h_t4 => ?_
  refine Rf.set0 (d := eI t4.1) (ev_ix (ev_call (ev_args (ev_var rfl) (ev_args (ev_mulP ev_c (ev_var rfl) h_t3) ev_args0 rfl) rfl) (q_law_length _ h_t4)) ev_c rfl rfl) rfl (sl_s (sl_s (sl_s (sl_s (sl_s (sl_s (sl_s (sl_s sl_z)))))))) ?_
  refine Rf.bd fun t5 h_t5 => ?_
  refine Rf.thnX (fun (s6 : Unit) z' => ∃ X7 : Option D, z' = ⟨[.val (eD v_script), .val (.ref 1), .val ((e2 eI eI) t1.1.1), .val ((eL (e2 (e2 eI eI) (e2 eI eI))) t1.1.2.1), .val ((e2 eI eI) t1.1.2.2), .val ((eL (e2 eI eI)) t2.1), .val ((eL eI) t2.2), .val (eI (1000000000 : Int)), .val (eI t4.1), (sv X7), .no, .no, .no, .no, .no, .no], (stT t5.2 tl)⟩) (fun (r : (Bool × DS)) f z' => (f = .rt ((fun r : (Bool × DS) => eB r.1) r) ∨ (f = .nx ∧ (fun r : (Bool × DS) => eB r.1) r = .non)) ∧ z'.h = (fun r : (Bool × DS) => stT r.2 tl) r) (Rf.forO (xs := t5.1) (v := ()) (eL (e2 eI eI)) (fun (s6 : Unit) z' => ∃ X7 : Option D, z' = ⟨[.val (eD v_script), .val (.ref 1), .val ((e2 eI eI) t1.1.1), .val ((eL (e2 (e2 eI eI) (e2 eI eI))) t1.1.2.1), .val ((e2 eI eI) t1.1.2.2), .val ((eL (e2 eI eI)) t2.1), .val ((eL eI) t2.2), .val (eI (1000000000 : Int)), .val (eI t4.1), (sv X7), .no, .no, .no, .no, .no, .no], (stT t5.2 tl)⟩) (fun (r : (Bool × DS)) f z' => (f = .rt ((fun r : (Bool × DS) => eB r.1) r) ∨ (f = .nx ∧ (fun r : (Bool × DS) => eB r.1) r = .non)) ∧ z'.h = (fun r : (Bool × DS) => stT r.2 tl) r) (ev_itsP (e := (eL (e2 eI eI))) (xs := t5.1) (ev_call (ev_args (ev_var rfl) (ev_args (ev_var rfl) (ev_args (ev_var rfl) (ev_args (ev_var rfl) ev_args0 rfl) rfl) rfl) rfl) (q_law_strings tl h_t5)) rfl) ⟨none, rfl⟩ fun x8 s6 z' hz => ?_) ?_ ?_
  · obtain ⟨X7, rfl⟩ := hz
    refine ⟨_, (gr_nm (sl_s (sl_s (sl_s (sl_s (sl_s (sl_s (sl_s (sl_s (sl_s sl_z)))))))))), ?_⟩
    refine Rf.last ?_
    refine Rf.bd fun t9 h_t9 => ?_
    refine Rf.ite (tv (ev_lt (ev_add (ev_ix (ev_call (ev_args (ev_var rfl) (ev_args (ev_var rfl) ev_args0 rfl) rfl) (q_law_length _ h_t9)) ev_c rfl rfl) (ev_blt1 (ev_var rfl) (F_lenM (e := (e2 eI eI)) rfl))) (ev_var rfl))) ?_ ?_
    · exact Rf.ret ev_c rfl ⟨⟨_, rfl⟩, .inl rfl, rfl⟩
    · refine Rf.skip ?_
      exact Rf.fin ⟨.inl rfl, (some ((eL (e2 eI eI)) x8)), rfl⟩
  · rintro s6 _ ⟨X7, rfl⟩
    refine Rf.bd fun t10 h_t10 => ?_
    refine Rf.thnX (fun (s11 : Unit) z' => ∃ X12 : Option D, ∃ X13 : Option D, ∃ X14 : Option D, ∃ X15 : Option D, ∃ X16 : Option D, z' = ⟨[.val (eD v_script), .val (.ref 1), .val ((e2 eI eI) t1.1.1), .val ((eL (e2 (e2 eI eI) (e2 eI eI))) t1.1.2.1), .val ((e2 eI eI) t1.1.2.2), .val ((eL (e2 eI eI)) t2.1), .val ((eL eI) t2.2), (sv X12), .val (eI t4.1), (sv X7), (sv X13), (sv X14), (sv X15), .no, (sv X16), .no], (stT t10.2 tl)⟩) (fun (r : (Bool × DS)) f z' => (f = .rt ((fun r : (Bool × DS) => eB r.1) r) ∨ (f = .nx ∧ (fun r : (Bool × DS) => eB r.1) r = .non)) ∧ z'.h = (fun r : (Bool × DS) => stT r.2 tl) r) (Rf.forO (xs := [(1 : Int), (10 : Int), ((1 : Int) + t10.1)]) (v := ()) eI (fun (s11 : Unit) z' => ∃ X12 : Option D, ∃ X13 : Option D, ∃ X14 : Option D, ∃ X15 : Option D, ∃ X16 : Option D, z' = ⟨[.val (eD v_script), .val (.ref 1), .val ((e2 eI eI) t1.1.1), .val ((eL (e2 (e2 eI eI) (e2 eI eI))) t1.1.2.1), .val ((e2 eI eI) t1.1.2.2), .val ((eL (e2 eI eI)) t2.1), .val ((eL eI) t2.2), (sv X12), .val (eI t4.1), (sv X7), (sv X13), (sv X14), (sv X15), .no, (sv X16), .no], (stT t10.2 tl)⟩) (fun (r : (Bool × DS)) f z' => (f = .rt ((fun r : (Bool × DS) => eB r.1) r) ∨ (f = .nx ∧ (fun r : (Bool × DS) => eB r.1) r = .non)) ∧ z'.h = (fun r : (Bool × DS) => stT r.2 tl) r) (ev_itsP (e := eI) (xs := [(1 : Int), (10 : Int), ((1 : Int) + t10.1)]) (ev_frz (ev_disp (ev_args ev_c (ev_args ev_c (ev_args (ev_add ev_c (ev_call (ev_args (ev_var rfl) (ev_args ev_c ev_args0 rfl) rfl) (q_law_draw tl h_t10))) ev_args0 rfl) rfl) rfl))) rfl) ⟨(some (eI (1000000000 : Int))), none, none, none, none, rfl⟩ fun x17 s11 z' hz => ?_) ?_ ?_
    · obtain ⟨X12, X13, X14, X15, X16, rfl⟩ := hz
      refine ⟨_, (gr_nm (sl_s (sl_s (sl_s (sl_s (sl_s (sl_s (sl_s sl_z)))))))), ?_⟩
      refine Rf.bd fun t18 h_t18 => ?_
      refine Rf.set0 (d := (e2 eI eI) t18) (ev_call (ev_args (ev_var rfl) (ev_args (ev_var rfl) ev_args0 rfl) rfl) (q_length_bounds _ h_t18)) rfl (sl_s (sl_s (sl_s (sl_s (sl_s (sl_s (sl_s (sl_s (sl_s (sl_s sl_z)))))))))) ?_
      refine Rf.bd fun t19 h_t19 => ?_
      refine Rf.set0 (d := eI t19.1) (ev_ix (ev_call (ev_args (ev_var rfl) (ev_args (ev_var rfl) ev_args0 rfl) rfl) (q_law_length _ h_t19)) ev_c rfl rfl) rfl (sl_s (sl_s (sl_s (sl_s (sl_s (sl_s (sl_s (sl_s (sl_s (sl_s (sl_s sl_z))))))))))) ?_
      refine Rf.bd fun t20 h_t20 => ?_
      refine Rf.bd fun t23 h_t23 => ?_
      refine Rf.set0 (d := (eL (h2 eI eB)) t23) (ev_frz (ev_cmp eI (h2 eI eB) (s := [.val (eD v_script), .val (.ref 1), .val ((e2 eI eI) t1.1.1), .val ((eL (e2 (e2 eI eI) (e2 eI eI))) t1.1.2.1), .val ((e2 eI eI) t1.1.2.2), .val ((eL (e2 eI eI)) t2.1), .val ((eL eI) t2.2), .val (eI x17), .val (eI t4.1), (sv X7), .val ((e2 eI eI) t18), .val (eI t19.1), (sv X15), .no, (sv X16), .no]) (s' := [.val (eD v_script), .val (.ref 1), .val ((e2 eI eI) t1.1.1), .val ((eL (e2 (e2 eI eI) (e2 eI eI))) t1.1.2.1), .val ((e2 eI eI) t1.1.2.2), .val ((eL (e2 eI eI)) t2.1), .val ((eL eI) t2.2), .val (eI x17), .val (eI t4.1), (sv X7), .val ((e2 eI eI) t18), .val (eI t19.1), (sv X15), .no, (sv X16), .no]) (s2 := [.val (eD v_script), .val (.ref 1), .val ((e2 eI eI) t1.1.1), .val ((eL (e2 (e2 eI eI) (e2 eI eI))) t1.1.2.1), .val ((e2 eI eI) t1.1.2.2), .val ((eL (e2 eI eI)) t2.1), .val ((eL eI) t2.2), .val (eI x17), .val (eI t4.1), (sv X7), .val ((e2 eI eI) t18), .val (eI t19.1), (sv X15), .no, (sv X16), .no]) (ev_rngP1 (ev_sub (ev_blt1 (ev_var rfl) (F_lenM (e := (e2 eI eI)) rfl)) ev_c) h_t20) rfl rfl rfl rfl (fun x21 => ⟨_, _, (gr_nm (sl_s (sl_s (sl_s (sl_s (sl_s (sl_s (sl_s (sl_s (sl_s (sl_s (sl_s (sl_s (sl_s sl_z)))))))))))))), fun b hb => by cases hb; exact ev_true, rfl, fun y hy => by obtain ⟨t22, h_t22, hy⟩ := bI hy; cases hy; exact ⟨_, (ev_call (ev_args (ev_frz (ev_sliceP (e := (e2 eI eI)) (ev_var rfl) (ev_part (ev_var rfl)) (ev_part (ev_add (ev_var rfl) ev_c)) rfl)) (ev_args (ev_var rfl) ev_args0 rfl) rfl) (q_law_length _ h_t22)), rfl, rfl⟩⟩) h_t23)) rfl (sl_s (sl_s (sl_s (sl_s (sl_s (sl_s (sl_s (sl_s (sl_s (sl_s (sl_s (sl_s sl_z)))))))))))) ?_
      refine Rf.bd fun t25 h_t25 => ?_
      refine Rf.setT (t := (t19.1 + (t25.length : Int))) eI (ev_add (ev_var rfl) (ev_blt1 (ev_frz (ev_cmp (h2 eI eB) (h2 eI eB) (s := [.val (eD v_script), .val (.ref 1), .val ((e2 eI eI) t1.1.1), .val ((eL (e2 (e2 eI eI) (e2 eI eI))) t1.1.2.1), .val ((e2 eI eI) t1.1.2.2), .val ((eL (e2 eI eI)) t2.1), .val ((eL eI) t2.2), .val (eI x17), .val (eI t4.1), (sv X7), .val ((e2 eI eI) t18), .val (eI t19.1), .val ((eL (h2 eI eB)) t23), .no, (sv X16), .no]) (s' := [.val (eD v_script), .val (.ref 1), .val ((e2 eI eI) t1.1.1), .val ((eL (e2 (e2 eI eI) (e2 eI eI))) t1.1.2.1), .val ((e2 eI eI) t1.1.2.2), .val ((eL (e2 eI eI)) t2.1), .val ((eL eI) t2.2), .val (eI x17), .val (eI t4.1), (sv X7), .val ((e2 eI eI) t18), .val (eI t19.1), .val ((eL (h2 eI eB)) t23), .no, (sv X16), .no]) (s2 := [.val (eD v_script), .val (.ref 1), .val ((e2 eI eI) t1.1.1), .val ((eL (e2 (e2 eI eI) (e2 eI eI))) t1.1.2.1), .val ((e2 eI eI) t1.1.2.2), .val ((eL (e2 eI eI)) t2.1), .val ((eL eI) t2.2), .val (eI x17), .val (eI t4.1), (sv X7), .val ((e2 eI eI) t18), .val (eI t19.1), .val ((eL (h2 eI eB)) t23), .no, (sv X16), .no]) (ev_itsC (e := (h2 eI eB)) (xs := t23) (ev_var rfl) rfl) rfl rfl rfl rfl (fun x24 => ⟨_, _, (gr_nm (sl_s (sl_s (sl_s (sl_s (sl_s (sl_s (sl_s (sl_s (sl_s (sl_s (sl_s (sl_s (sl_s (sl_s (sl_s sl_z)))))))))))))))), fun b hb => by cases hb; exact (tt_not (tt_tru (ev_ix (ev_var rfl) ev_c rfl rfl) rfl)), rfl, fun y hy => by cases hy; exact ⟨_, (ev_var rfl), rfl, rfl⟩⟩) h_t25)) (F_lenM (e := (h2 eI eB)) rfl))) (fun _ => rfl) (fun _ => (sl_s (sl_s (sl_s (sl_s (sl_s (sl_s (sl_s (sl_s (sl_s (sl_s (sl_s (sl_s (sl_s (sl_s sl_z))))))))))))))) fun v_up26 => ?_
      refine Rf.last ?_
      refine Rf.ite (tt_or (tt_not (tt_tru (ev_un (ev_var rfl) (lf_isi (t := "tuple") rfl (by with_unfolding_all decide))) rfl)) fun _ => (tv (ev_ne (ev_var rfl) (ev_tup (ev_args (ev_var rfl) (ev_args (ev_var rfl) ev_args0 rfl) rfl)) (EqN.eqP (e := (e2 eI eI)) (EqN.t2 EqN.I EqN.I) (by decide) t18 (t19.1, v_up26) _ rfl rfl)))) ?_ ?_
      · exact Rf.ret ev_c rfl ⟨⟨_, rfl⟩, .inl rfl, rfl⟩
      · refine Rf.skip ?_
        exact Rf.fin ⟨.inl rfl, (some (eI x17)), (some ((e2 eI eI) t18)), (some (eI t19.1)), (some ((eL (h2 eI eB)) t23)), (some (eI v_up26)), rfl⟩
    · rintro s11 _ ⟨X12, X13, X14, X15, X16, rfl⟩
      refine Rf.last ?_
      exact Rf.ret ev_c rfl ⟨.inl rfl, rfl⟩
    · intro r r' f z' hk hr; cases hk; exact hr.2
  · intro r r' f z' hk hr; cases hk; exact hr.2
end W
set_option Elab.async false
set_option linter.all false
set_option maxRecDepth 100000
namespace Mi
open PySem L2
end Mi
set_option Elab.async false
set_option linter.all false
set_option maxRecDepth 100000
set_option maxHeartbeats 1000000
namespace Mi
open PySem L2
end Mi
set_option Elab.async false
set_option linter.all false
set_option maxRecDepth 100000
set_option maxHeartbeats 1000000
namespace W
open PySem L2 Mi
end W
set_option Elab.async false
set_option linter.all false
set_option maxRecDepth 100000
namespace W
open PySem L2 Mi
end W
set_option Elab.async false
set_option linter.all false
set_option maxRecDepth 100000
set_option maxHeartbeats 1000000
namespace W
open PySem L2 Mi
abbrev Pt := Int × Int
abbrev Gt := Pt × Pt
def bN (i : Int) : Prop := -10000 ≤ i ∧ i ≤ 10000
def bP (p : Pt) : Prop := bN p.1 ∧ bN p.2
def bG (g : Gt) : Prop := bP g.1 ∧ bP g.2
def cr (a b c : Pt) : Int := (b.2 - a.2) * (c.1 - a.1) - (b.1 - a.1) * (c.2 - a.2)
def sq (a b : Pt) : Int := (a.1 - b.1) * (a.1 - b.1) + (a.2 - b.2) * (a.2 - b.2)
def dt (a b c d : Pt) : Int := (b.1 - a.1) * (d.1 - c.1) + (b.2 - a.2) * (d.2 - c.2)
theorem mul_bd {i j a b : Int} (hi : -a ≤ i ∧ i ≤ a) (hj : -b ≤ j ∧ j ≤ b) : -(a * b) ≤ i * j ∧ i * j ≤ a * b := by
  have ha : 0 ≤ a := by omega
  have h1 : 0 ≤ (a - i) * (b - j) := Int.mul_nonneg (by omega) (by omega)
  have h2 : 0 ≤ (a + i) * (b + j) := Int.mul_nonneg (by omega) (by omega)
  have h3 : 0 ≤ (a - i) * (b + j) := Int.mul_nonneg (by omega) (by omega)
  have h4 : 0 ≤ (a + i) * (b - j) := Int.mul_nonneg (by omega) (by omega)
  constructor <;> grind
theorem sqn (i : Int) : 0 ≤ i * i := by
  rcases Int.le_total 0 i with h | h
  · exact Int.mul_nonneg h h
  · have := Int.mul_nonneg (show 0 ≤ -i by omega) (show 0 ≤ -i by omega)
    grind
theorem bN_sub {i j : Int} (hi : bN i) (hj : bN j) : -20000 ≤ i - j ∧ i - j ≤ 20000 := by unfold bN at hi hj; omega
theorem cr_bd {a b c : Pt} (ha : bP a) (hb : bP b) (hc : bP c) : -800000000 ≤ cr a b c ∧ cr a b c ≤ 800000000 := by
  have h1 := mul_bd (bN_sub hb.2 ha.2) (bN_sub hc.1 ha.1)
  have h2 := mul_bd (bN_sub hb.1 ha.1) (bN_sub hc.2 ha.2)
  unfold cr
  omega
theorem sq_bd {a b : Pt} (ha : bP a) (hb : bP b) : 0 ≤ sq a b ∧ sq a b ≤ 800000000 := by
  have h1 := mul_bd (bN_sub ha.1 hb.1) (bN_sub ha.1 hb.1)
  have h2 := mul_bd (bN_sub ha.2 hb.2) (bN_sub ha.2 hb.2)
  have h3 := sqn (a.1 - b.1)
  have h4 := sqn (a.2 - b.2)
  unfold sq
  omega
theorem dt_bd {a b c d : Pt} (ha : bP a) (hb : bP b) (hc : bP c) (hd : bP d) : -800000000 ≤ dt a b c d ∧ dt a b c d ≤ 800000000 := by
  have h1 := mul_bd (bN_sub hb.1 ha.1) (bN_sub hd.1 hc.1)
  have h2 := mul_bd (bN_sub hb.2 ha.2) (bN_sub hd.2 hc.2)
  unfold dt
  omega
theorem mulB {i j : Int} (hi : -20000 ≤ i ∧ i ≤ 20000) (hj : -20000 ≤ j ∧ j ≤ 20000) : Pl.mul i j = some (i * j) := mul64 (by omega) (by omega)
theorem cross_t {a b c : Pt} (ha : bP a) (hb : bP b) (hc : bP c) : p_cross a b c = some (cr a b c) := by
  unfold p_cross
  rw [mulB (bN_sub hb.2 ha.2) (bN_sub hc.1 ha.1), Option.bind_some, mulB (bN_sub hb.1 ha.1) (bN_sub hc.2 ha.2)]
  rfl
theorem distance_t {a b : Pt} (ha : bP a) (hb : bP b) : p_distance a b = some (sq a b) := by
  unfold p_distance
  rw [mulB (bN_sub ha.1 hb.1) (bN_sub ha.1 hb.1), Option.bind_some, mulB (bN_sub ha.2 hb.2) (bN_sub ha.2 hb.2)]
  rfl
theorem on_gate_t {g : Gt} {p : Pt} (hg : bG g) (hp : bP p) : p_on_gate g p = some (decide (cr g.1 g.2 p = 0) && decide (sq g.1 p + sq p g.2 ≤ sq g.1 g.2)) := by
  unfold p_on_gate
  rw [cross_t hg.1 hg.2 hp, distance_t hg.1 hp, distance_t hp hg.2, distance_t hg.1 hg.2]
  show (if (!decide (cr g.1 g.2 p = 0)) = true then some false else some (decide (sq g.1 p + sq p g.2 ≤ sq g.1 g.2))) = _
  cases decide (cr g.1 g.2 p = 0) <;> rfl
theorem nearer_t {g : Gt} {p : Pt} (hg : bG g) (hp : bP p) : p_nearer g p = some (if sq g.1 p ≤ sq g.2 p then g.1 else g.2) := by
  unfold p_nearer
  rw [distance_t hg.1 hp, distance_t hg.2 hp]
  show (if decide (sq g.1 p ≤ sq g.2 p) = true then some g.1 else some g.2) = _
  by_cases h : sq g.1 p ≤ sq g.2 p
  · rw [decide_eq_true h, if_pos h]; rfl
  · rw [decide_eq_false h, if_neg h]; rfl
theorem is_straight_t {a b c : Pt} (ha : bP a) (hb : bP b) (hc : bP c) : p_is_straight a b c = some (decide (cr a b c = 0) && decide (0 < dt a b b c)) := by
  unfold p_is_straight
  rw [cross_t ha hb hc, Option.bind_some, mulB (bN_sub hb.1 ha.1) (bN_sub hc.1 hb.1), Option.bind_some, mulB (bN_sub hb.2 ha.2) (bN_sub hc.2 hb.2), Option.bind_some]
  show (if (!decide (cr a b c = 0)) = true then some false else some (decide (0 < dt a b b c))) = _
  cases decide (cr a b c = 0) <;> rfl
def GOk (g : Gt) : Prop := bG g ∧ ((g.1.1 = g.2.1 ∧ g.1.2 ≠ g.2.2) ∨ (g.1.2 = g.2.2 ∧ g.1.1 ≠ g.2.1))
end W
set_option Elab.async false
set_option linter.all false
set_option maxRecDepth 100000
set_option maxHeartbeats 1000000
namespace W
open PySem L2 Mi
def fr (f : Int × Int) : Rat := (f.1 : Rat) / (f.2 : Rat)
/-- a fraction between 0 and 1 -/
structure Fr (f : Int × Int) : Prop where
  p : 0 < f.2
  n : 0 ≤ f.1
  l : f.1 ≤ f.2
  b : f.2 ≤ 2000000000
theorem Fr.pos {f : Int × Int} (h : Fr f) : (0 : Rat) < (f.2 : Rat) := by exact_mod_cast h.p
theorem fr_le {f g : Int × Int} (hf : 0 < f.2) (hg : 0 < g.2) : fr f ≤ fr g ↔ f.1 * g.2 ≤ g.1 * f.2 := by
  have hf' : (0 : Rat) < (f.2 : Rat) := by exact_mod_cast hf
  have hg' : (0 : Rat) < (g.2 : Rat) := by exact_mod_cast hg
  have h1 : fr f * ((f.2 : Rat) * (g.2 : Rat)) = (f.1 : Rat) * g.2 := by unfold fr; grind
  have h2 : fr g * ((f.2 : Rat) * (g.2 : Rat)) = (g.1 : Rat) * f.2 := by unfold fr; grind
  have h3 : (0 : Rat) < (f.2 : Rat) * (g.2 : Rat) := Rat.mul_pos hf' hg'
  constructor
  · intro h
    have h4 := Rat.mul_le_mul_of_nonneg_right h (Rat.le_of_lt h3)
    rw [h1, h2] at h4
    exact_mod_cast h4
  · intro h
    have h4 : (f.1 : Rat) * g.2 ≤ (g.1 : Rat) * f.2 := by exact_mod_cast h
    rw [← h1, ← h2] at h4
    exact Rat.le_of_mul_le_mul_right h4 h3
theorem fr_eq {f g : Int × Int} (hf : 0 < f.2) (hg : 0 < g.2) : fr f = fr g ↔ f.1 * g.2 = g.1 * f.2 := by
  constructor
  · intro h
    have a := (fr_le hf hg).mp (by rw [h]; exact Rat.le_refl)
    have b := (fr_le hg hf).mp (by rw [h]; exact Rat.le_refl)
    omega
  · intro h
    exact Rat.le_antisymm ((fr_le hf hg).mpr (by omega)) ((fr_le hg hf).mpr (by omega))
theorem Fr.ge0 {f : Int × Int} (h : Fr f) : 0 ≤ fr f := by
  have h0 : fr (0, 1) = 0 := by unfold fr; grind
  rw [← h0, fr_le (by decide) h.p]
  have := h.n
  simp only
  omega
theorem fr0 : fr (0, 1) = 0 := by unfold fr; grind
theorem fr1 : fr (1, 1) = 1 := by unfold fr; grind
/-- where a + t (b - a) is -/
def ln (a b : Int) (t : Rat) : Rat := (a : Rat) + t * ((b : Rat) - (a : Rat))
def inR (a b lo hi : Int) (t : Rat) : Prop := (lo : Rat) ≤ ln a b t ∧ ln a b t ≤ (hi : Rat)
theorem ln_same {a : Int} {t : Rat} : ln a a t = (a : Rat) := by unfold ln; grind
def mn (a b : Int) : Int := if b < a then b else a
def mx (a b : Int) : Int := if b > a then b else a
theorem mn_le (a b : Int) : mn a b ≤ mx a b := by unfold mn mx; split <;> split <;> omega
/-- the segment is on the gate at t -/
def onAt (p q : Pt) (g : Gt) (t : Rat) : Prop := inR p.1 q.1 (mn g.1.1 g.2.1) (mx g.1.1 g.2.1) t ∧ inR p.2 q.2 (mn g.1.2 g.2.2) (mx g.1.2 g.2.2) t
end W
set_option Elab.async false
set_option linter.all false
set_option maxRecDepth 100000
set_option maxHeartbeats 1000000
namespace W
open PySem L2 Mi
def ab (i : Int) : Int := if i < 0 then -i else i
def metP (o r c1 c2 d1 d2 w top den : Int) : Option (Int × Int) :=
  if o = 0 ∧ r = 0 then
    (if (if mn d1 d2 > 0 then mn d1 d2 else 0) * den < top * w then (if mx d1 d2 * den < top * w then none else some (top, den))
     else (if (if mx d1 d2 < w then mx d1 d2 else w) < (if mn d1 d2 > 0 then mn d1 d2 else 0) then none else some ((if mn d1 d2 > 0 then mn d1 d2 else 0), w)))
  else if 0 < o * r then none
  else if 0 < c1 * c2 then none
  else if ab o * den < top * (ab o + ab r) then none
  else some (ab o, ab o + ab r)
/-- the first place from n on -/
def MetOk (S : Rat → Prop) (n : Rat) : Option (Int × Int) → Prop
  | none => ∀ t, n ≤ t → t ≤ 1 → ¬ S t
  | some f => Fr f ∧ n ≤ fr f ∧ S (fr f) ∧ ∀ t, n ≤ t → t ≤ 1 → S t → fr f ≤ t
theorem le_fr {f : Int × Int} {t : Rat} (h : 0 < f.2) : t ≤ fr f ↔ t * (f.2 : Rat) ≤ (f.1 : Rat) := by
  have h' : (0 : Rat) < (f.2 : Rat) := by exact_mod_cast h
  have h1 : fr f * (f.2 : Rat) = f.1 := by unfold fr; grind
  rw [← h1]
  exact ⟨fun q => Rat.mul_le_mul_of_nonneg_right q (Rat.le_of_lt h'), fun q => Rat.le_of_mul_le_mul_right q h'⟩
theorem ge_fr {f : Int × Int} {t : Rat} (h : 0 < f.2) : fr f ≤ t ↔ (f.1 : Rat) ≤ t * (f.2 : Rat) := by
  have h' : (0 : Rat) < (f.2 : Rat) := by exact_mod_cast h
  have h1 : fr f * (f.2 : Rat) = f.1 := by unfold fr; grind
  rw [← h1]
  exact ⟨fun q => Rat.mul_le_mul_of_nonneg_right q (Rat.le_of_lt h'), fun q => Rat.le_of_mul_le_mul_right q h'⟩
theorem metP_ok {S : Rat → Prop} {o r c1 c2 d1 d2 w top den : Int} (hf : Fr (top, den)) (hw : 0 < w ∧ w ≤ 2000000000) (ho : ab o + ab r ≤ 2000000000)
    (h1 : o = 0 ∧ r = 0 → ∀ t, S t ↔ ((mn d1 d2 : Int) : Rat) ≤ t * (w : Rat) ∧ t * (w : Rat) ≤ ((mx d1 d2 : Int) : Rat))
    (h2 : ¬ (o = 0 ∧ r = 0) → ∀ t, S t ↔ (o : Rat) + t * ((r : Rat) - (o : Rat)) = 0 ∧ c1 * c2 ≤ 0) : MetOk S (fr (top, den)) (metP o r c1 c2 d1 d2 w top den) := by
  have f1 := hf.p; have f2 := hf.n
  dsimp only at f1 f2
  have n0 := hf.ge0
  unfold metP
  by_cases c : o = 0 ∧ r = 0
  · rw [if_pos c]
    have h1 := h1 c
    have hm := mn_le d1 d2
    generalize mn d1 d2 = lo0 at *
    generalize mx d1 d2 = hi at *
    generalize hlo : (if lo0 > 0 then lo0 else 0) = lo
    have hlo2 : 0 ≤ lo ∧ lo0 ≤ lo ∧ (lo = 0 ∨ lo = lo0) := by rw [← hlo]; split <;> omega
    have hw' : (0 : Rat) < (w : Rat) := by exact_mod_cast hw.1
    generalize hmi : (if hi < w then hi else w) = mi
    have hmi2 : mi ≤ hi ∧ mi ≤ w ∧ (mi = hi ∨ mi = w) := by rw [← hmi]; split <;> omega
    have hlr : (lo0 : Rat) ≤ (lo : Rat) := by exact_mod_cast hlo2.2.1
    split
    · rename_i a
      have a1 : fr (lo, w) ≤ fr (top, den) := by rw [fr_le hw.1 f1]; dsimp only; omega
      have a2 := (ge_fr (f := (lo, w)) hw.1).mp a1
      split
      · rename_i b
        intro t ht _ hS
        have hS := (h1 t).mp hS
        have q := Rat.mul_le_mul_of_nonneg_right ht (Rat.le_of_lt hw')
        have : ¬ fr (top, den) ≤ fr (hi, w) := by rw [fr_le f1 hw.1]; dsimp only; omega
        exact this ((le_fr hw.1).mpr (Rat.le_trans q hS.2))
      · rename_i b
        have b1 : fr (top, den) ≤ fr (hi, w) := by rw [fr_le f1 hw.1]; dsimp only; omega
        exact ⟨hf, Rat.le_refl, (h1 _).mpr ⟨Rat.le_trans hlr a2, (le_fr hw.1).mp b1⟩, fun t ht _ _ => ht⟩
    · rename_i a
      have a1 : fr (top, den) ≤ fr (lo, w) := by rw [fr_le f1 hw.1]; dsimp only; omega
      have low : ∀ t, fr (top, den) ≤ t → S t → fr (lo, w) ≤ t := fun t ht hS => by
        have hS := (h1 t).mp hS
        rw [ge_fr hw.1]
        rcases hlo2.2.2 with e | e
        · rw [e]
          exact Rat.mul_nonneg (Rat.le_trans n0 ht) (Rat.le_of_lt hw')
        · rw [e]; exact hS.1
      split
      · rename_i b
        intro t ht t1 hS
        have q := low t ht hS
        rw [ge_fr hw.1] at q
        dsimp only at q
        have hS := (h1 t).mp hS
        have q1 : t * (w : Rat) ≤ (w : Rat) := by
          have := Rat.mul_le_mul_of_nonneg_right t1 (Rat.le_of_lt hw')
          grind
        have q2 : lo ≤ w := by exact_mod_cast Rat.le_trans q q1
        have q3 : lo ≤ hi := by exact_mod_cast Rat.le_trans q hS.2
        omega
      · rename_i b
        have b1 : lo ≤ w ∧ lo ≤ hi := by omega
        refine ⟨⟨hw.1, hlo2.1, b1.1, hw.2⟩, a1, ?_, fun t ht _ hS => low t ht hS⟩
        have e : fr (lo, w) * (w : Rat) = (lo : Rat) := by unfold fr; grind
        rw [h1, e]
        exact ⟨hlr, by exact_mod_cast b1.2⟩
  · rw [if_neg c]
    have h2 := h2 c
    split
    · rename_i a
      intro t ht t1 hS
      have hS := ((h2 t).mp hS).1
      have t0 := Rat.le_trans n0 ht
      by_cases po : 0 < o
      · have pr : 0 < r := by
          rcases Int.lt_or_le 0 r with h | h
          · exact h
          · have := Int.mul_nonneg (show 0 ≤ o by omega) (show 0 ≤ -r by omega)
            exact absurd a (by grind)
        have p1 : (0 : Rat) < (o : Rat) := by exact_mod_cast po
        have p2 : (0 : Rat) < (r : Rat) := by exact_mod_cast pr
        have m1 := Rat.mul_nonneg t0 (Rat.le_of_lt p2)
        have m2 := Rat.mul_nonneg (show 0 ≤ 1 - t by grind) (Rat.le_of_lt p1)
        have e : t * (r : Rat) + (1 - t) * (o : Rat) = 0 := by grind
        have e1 : t * (r : Rat) = 0 := by grind
        have e2 : t = 0 := by grind
        rw [e2] at e
        grind
      · have po : o < 0 := by
          rcases Int.lt_or_le o 0 with h | h
          · exact h
          · have : o = 0 := by omega
            rw [this] at a
            simp at a
        have pr : r < 0 := by
          rcases Int.lt_or_le r 0 with h | h
          · exact h
          · have := Int.mul_nonneg (show 0 ≤ -o by omega) h
            exact absurd a (by grind)
        have p1 : (o : Rat) < 0 := by exact_mod_cast po
        have p2 : (r : Rat) < 0 := by exact_mod_cast pr
        have m1 := Rat.mul_nonneg t0 (show 0 ≤ -(r : Rat) by grind)
        have m2 := Rat.mul_nonneg (show 0 ≤ 1 - t by grind) (show 0 ≤ -(o : Rat) by grind)
        have e : t * (r : Rat) + (1 - t) * (o : Rat) = 0 := by grind
        have e1 : t * (r : Rat) = 0 := by grind
        have e2 : t = 0 := by grind
        rw [e2] at e
        grind
    · rename_i a
      split
      · rename_i b
        intro t ht t1 hS
        have := ((h2 t).mp hS).2
        omega
      · rename_i b
        have hop : ¬ (0 < o ∧ 0 < r) := fun h => a (Int.mul_pos h.1 h.2)
        have hon : ¬ (o < 0 ∧ r < 0) := fun h => a (Int.mul_pos_of_neg_of_neg h.1 h.2)
        have dp : 0 < ab o + ab r ∧ 0 ≤ ab o ∧ 0 ≤ ab r := by unfold ab; split <;> split <;> omega
        have un : ∀ t : Rat, (o : Rat) + t * ((r : Rat) - (o : Rat)) = 0 ↔ t = fr (ab o, ab o + ab r) := fun t => by
          have hd : (0 : Rat) < ((ab o + ab r : Int) : Rat) := by exact_mod_cast dp.1
          have hs : (ab o = o ∧ ab o + ab r = o - r) ∨ (ab o = -o ∧ ab o + ab r = r - o) := by unfold ab; split <;> split <;> omega
          unfold fr
          dsimp only
          rcases hs with ⟨e1, e2⟩ | ⟨e1, e2⟩
          · rw [e2] at hd ⊢
            rw [e1]
            push_cast at hd ⊢
            constructor
            · intro h; grind
            · intro h; subst h; grind
          · rw [e2] at hd ⊢
            rw [e1]
            push_cast at hd ⊢
            constructor
            · intro h; grind
            · intro h; subst h; grind
        split
        · rename_i d
          intro t ht t1 hS
          have := (un t).mp ((h2 t).mp hS).1
          subst this
          rw [fr_le f1 dp.1] at ht
          dsimp only at ht
          omega
        · rename_i d
          refine ⟨⟨dp.1, dp.2.1, by dsimp only; omega, ho⟩, ?_, (h2 _).mpr ⟨(un _).mpr rfl, by omega⟩, fun t ht t1 hS => ?_⟩
          · rw [fr_le f1 dp.1]
            dsimp only
            omega
          · have := (un t).mp ((h2 t).mp hS).1
            rw [this]
            exact Rat.le_refl
end W
set_option Elab.async false
set_option linter.all false
set_option maxRecDepth 100000
set_option maxHeartbeats 1000000
namespace W
open PySem L2 Mi
theorem between {x a b : Rat} {lo hi : Rat} (h : (lo = a ∧ hi = b ∧ a ≤ b) ∨ (lo = b ∧ hi = a ∧ b ≤ a)) : (lo ≤ x ∧ x ≤ hi) ↔ (x - a) * (x - b) ≤ 0 := by
  have key : ∀ a b : Rat, a ≤ b → ((a ≤ x ∧ x ≤ b) ↔ (x - a) * (x - b) ≤ 0) := fun a b h => by
    constructor
    · rintro ⟨h1, h2⟩
      have := Rat.mul_nonneg (show 0 ≤ x - a by grind) (show 0 ≤ b - x by grind)
      grind
    · intro q
      constructor
      · rcases Rat.le_total (a := a) (b := x) with c | c
        · exact c
        · have := Rat.mul_nonneg (show 0 ≤ a - x by grind) (show 0 ≤ b - x by grind)
          have e : (a - x) * (b - x) = 0 := by grind
          rcases Rat.mul_eq_zero.mp e with e | e <;> grind
      · rcases Rat.le_total (a := x) (b := b) with c | c
        · exact c
        · have := Rat.mul_nonneg (show 0 ≤ x - a by grind) (show 0 ≤ x - b by grind)
          have e : (x - a) * (x - b) = 0 := by grind
          rcases Rat.mul_eq_zero.mp e with e | e <;> grind
  rcases h with ⟨rfl, rfl, h⟩ | ⟨rfl, rfl, h⟩
  · exact key _ _ h
  · rw [key _ _ h, Rat.mul_comm]
theorem mn_mx (a b : Int) : (mn a b = a ∧ mx a b = b ∧ a ≤ b) ∨ (mn a b = b ∧ mx a b = a ∧ b ≤ a) := by unfold mn mx; split <;> split <;> omega
theorem mn_mxR (a b : Int) : (((mn a b : Int) : Rat) = a ∧ ((mx a b : Int) : Rat) = b ∧ (a : Rat) ≤ b) ∨ (((mn a b : Int) : Rat) = b ∧ ((mx a b : Int) : Rat) = a ∧ (b : Rat) ≤ a) := by
  rcases mn_mx a b with ⟨h1, h2, h3⟩ | ⟨h1, h2, h3⟩
  · exact .inl ⟨by rw [h1], by rw [h2], by exact_mod_cast h3⟩
  · exact .inr ⟨by rw [h1], by rw [h2], by exact_mod_cast h3⟩
theorem inR_prod {a b g1 g2 : Int} {t : Rat} : inR a b (mn g1 g2) (mx g1 g2) t ↔ (ln a b t - (g1 : Rat)) * (ln a b t - (g2 : Rat)) ≤ 0 := between (mn_mxR g1 g2)
theorem sq_pos {x : Rat} (h : x ≠ 0) : 0 < x * x := by
  rcases Rat.le_total (a := 0) (b := x) with c | c
  · have : 0 < x := by grind
    exact Rat.mul_pos this this
  · have : 0 < -x := by grind
    have := Rat.mul_pos this this
    grind
theorem nonpos_scale {k x : Rat} (hk : 0 < k) : k * x ≤ 0 ↔ x ≤ 0 := by
  constructor
  · intro h
    rcases Rat.le_total (a := x) (b := 0) with c | c
    · exact c
    · have := Rat.mul_nonneg (Rat.le_of_lt hk) c
      have e : k * x = 0 := by grind
      rcases Rat.mul_eq_zero.mp e with e | e <;> grind
  · intro h
    have := Rat.mul_nonneg (Rat.le_of_lt hk) (show 0 ≤ -x by grind)
    grind
theorem met_v {p q : Pt} {g : Gt} {top den : Int} (hp : bP p) (hq : bP q) (hn : p ≠ q) (hg : bG g) (hx : g.1.1 = g.2.1) (hz : g.1.2 ≠ g.2.2) (hf : Fr (top, den)) :
    MetOk (onAt p q g) (fr (top, den)) (metP (cr g.1 g.2 p) (cr g.1 g.2 q) (cr p q g.1) (cr p q g.2) (dt p q p g.1) (dt p q p g.2) (sq p q) top den) := by
  have b1 := cr_bd hg.1 hg.2 hp
  have b2 := cr_bd hg.1 hg.2 hq
  have b7 := sq_bd hp hq
  have eo : cr g.1 g.2 p = (g.2.2 - g.1.2) * (p.1 - g.1.1) := by unfold cr; rw [hx]; grind
  have er : cr g.1 g.2 q = (g.2.2 - g.1.2) * (q.1 - g.1.1) := by unfold cr; rw [hx]; grind
  have hh : g.2.2 - g.1.2 ≠ 0 := by omega
  have zo : ∀ i : Int, (g.2.2 - g.1.2) * (i - g.1.1) = 0 ↔ i = g.1.1 := fun i => by
    rw [Int.mul_eq_zero]
    omega
  have mxx : ∀ t, inR p.1 q.1 (mn g.1.1 g.2.1) (mx g.1.1 g.2.1) t ↔ ln p.1 q.1 t = (g.1.1 : Rat) := fun t => by
    rw [← hx]
    have e1 : mn g.1.1 g.1.1 = g.1.1 := by unfold mn; split <;> rfl
    have e2 : mx g.1.1 g.1.1 = g.1.1 := by unfold mx; split <;> rfl
    rw [e1, e2]
    unfold inR
    exact ⟨fun h => Rat.le_antisymm h.2 h.1, fun h => by rw [h]; exact ⟨Rat.le_refl, Rat.le_refl⟩⟩
  have wp : 0 < sq p q := by
    have h1 := sqn (p.1 - q.1)
    have h2 := sqn (p.2 - q.2)
    rcases Int.lt_or_le 0 (sq p q) with h | h
    · exact h
    · exfalso
      unfold sq at h
      have e1 : (p.1 - q.1) * (p.1 - q.1) = 0 := by omega
      have e2 : (p.2 - q.2) * (p.2 - q.2) = 0 := by omega
      rw [Int.mul_eq_zero] at e1 e2
      exact hn (Prod.ext (by omega) (by omega))
  refine metP_ok hf ⟨wp, by omega⟩ (by unfold ab; split <;> split <;> omega) (fun h t => ?_) fun h t => ?_
  · rw [eo, er, zo, zo] at h
    obtain ⟨e1, e2⟩ := h
    unfold onAt
    rw [mxx]
    have l1 : ln p.1 q.1 t = (g.1.1 : Rat) := by rw [e1, e2]; exact ln_same
    have hk : (((q.2 : Int) : Rat) - (p.2 : Rat)) ≠ 0 := by
      intro c
      have : (q.2 : Rat) = p.2 := by grind
      have : q.2 = p.2 := by exact_mod_cast this
      exact hn (Prod.ext (by rw [e1, e2]) this.symm)
    rw [inR_prod, between (mn_mxR (dt p q p g.1) (dt p q p g.2))]
    have f1 : ((dt p q p g.1 : Int) : Rat) = ((q.2 : Rat) - p.2) * ((g.1.2 : Rat) - p.2) := by
      unfold dt
      rw [e1, e2]
      push_cast
      grind
    have f2 : ((dt p q p g.2 : Int) : Rat) = ((q.2 : Rat) - p.2) * ((g.2.2 : Rat) - p.2) := by
      unfold dt
      rw [e1, e2]
      push_cast
      grind
    have f3 : ((sq p q : Int) : Rat) = ((q.2 : Rat) - p.2) * ((q.2 : Rat) - p.2) := by
      unfold sq
      rw [e1, e2]
      push_cast
      grind
    rw [f1, f2, f3]
    have e : (t * (((q.2 : Rat) - p.2) * ((q.2 : Rat) - p.2)) - ((q.2 : Rat) - p.2) * ((g.1.2 : Rat) - p.2)) * (t * (((q.2 : Rat) - p.2) * ((q.2 : Rat) - p.2)) - ((q.2 : Rat) - p.2) * ((g.2.2 : Rat) - p.2))
        = (((q.2 : Rat) - p.2) * ((q.2 : Rat) - p.2)) * ((ln p.2 q.2 t - (g.1.2 : Rat)) * (ln p.2 q.2 t - (g.2.2 : Rat))) := by
      unfold ln
      grind
    rw [e, nonpos_scale (sq_pos hk)]
    exact ⟨fun h => h.2, fun h => ⟨l1, h⟩⟩
  · rw [eo, er, zo, zo] at h
    unfold onAt
    rw [mxx, inR_prod]
    have hhr : ((g.2.2 : Rat) - (g.1.2 : Rat)) ≠ 0 := by
      intro c
      have : (g.2.2 : Rat) = g.1.2 := by grind
      have : g.2.2 = g.1.2 := by exact_mod_cast this
      omega
    have eq0 : ((cr g.1 g.2 p : Int) : Rat) + t * (((cr g.1 g.2 q : Int) : Rat) - ((cr g.1 g.2 p : Int) : Rat)) = ((g.2.2 : Rat) - (g.1.2 : Rat)) * (ln p.1 q.1 t - (g.1.1 : Rat)) := by
      rw [eo, er]
      unfold ln
      push_cast
      grind
    rw [eq0]
    have iff1 : ((g.2.2 : Rat) - (g.1.2 : Rat)) * (ln p.1 q.1 t - (g.1.1 : Rat)) = 0 ↔ ln p.1 q.1 t = (g.1.1 : Rat) := by
      rw [Rat.mul_eq_zero]
      constructor
      · rintro (c | c)
        · exact absurd c hhr
        · grind
      · intro c; right; grind
    rw [iff1]
    constructor
    · rintro ⟨h1, h2⟩
      refine ⟨h1, ?_⟩
      have hu : ((q.1 : Rat) - (p.1 : Rat)) ≠ 0 := by
        intro c
        have c1 : (q.1 : Rat) = p.1 := by grind
        have c2 : q.1 = p.1 := by exact_mod_cast c1
        rw [c2, ln_same] at h1
        have : p.1 = g.1.1 := by exact_mod_cast h1
        exact h ⟨this, by omega⟩
      have e : ((cr p q g.1 * cr p q g.2 : Int) : Rat) = (((q.1 : Rat) - p.1) * ((q.1 : Rat) - p.1)) * ((ln p.2 q.2 t - (g.1.2 : Rat)) * (ln p.2 q.2 t - (g.2.2 : Rat))) := by
        unfold cr
        rw [← hx]
        unfold ln at h1 ⊢
        push_cast
        rw [← h1]
        grind
      have : ((cr p q g.1 * cr p q g.2 : Int) : Rat) ≤ 0 := by
        rw [e, nonpos_scale (sq_pos hu)]
        exact h2
      exact_mod_cast this
    · rintro ⟨h1, h2⟩
      refine ⟨h1, ?_⟩
      have hu : ((q.1 : Rat) - (p.1 : Rat)) ≠ 0 := by
        intro c
        have c1 : (q.1 : Rat) = p.1 := by grind
        have c2 : q.1 = p.1 := by exact_mod_cast c1
        rw [c2, ln_same] at h1
        have : p.1 = g.1.1 := by exact_mod_cast h1
        exact h ⟨this, by omega⟩
      have e : ((cr p q g.1 * cr p q g.2 : Int) : Rat) = (((q.1 : Rat) - p.1) * ((q.1 : Rat) - p.1)) * ((ln p.2 q.2 t - (g.1.2 : Rat)) * (ln p.2 q.2 t - (g.2.2 : Rat))) := by
        unfold cr
        rw [← hx]
        unfold ln at h1 ⊢
        push_cast
        rw [← h1]
        grind
      have h3 : ((cr p q g.1 * cr p q g.2 : Int) : Rat) ≤ 0 := by exact_mod_cast h2
      rw [e, nonpos_scale (sq_pos hu)] at h3
      exact h3
def sw (p : Pt) : Pt := (p.2, p.1)
def swG (g : Gt) : Gt := (sw g.1, sw g.2)
theorem cr_sw (a b c : Pt) : cr (sw a) (sw b) (sw c) = - cr a b c := by unfold cr sw; dsimp only; grind
theorem dt_sw (a b c d : Pt) : dt (sw a) (sw b) (sw c) (sw d) = dt a b c d := by unfold dt sw; dsimp only; grind
theorem sq_sw (a b : Pt) : sq (sw a) (sw b) = sq a b := by unfold sq sw; dsimp only; grind
theorem ab_neg (i : Int) : ab (-i) = ab i := by unfold ab; split <;> split <;> omega
theorem metP_neg {o r c1 c2 d1 d2 w top den : Int} : metP (-o) (-r) (-c1) (-c2) d1 d2 w top den = metP o r c1 c2 d1 d2 w top den := by
  unfold metP
  have e1 : (-o = 0 ∧ -r = 0) ↔ (o = 0 ∧ r = 0) := by omega
  have e2 : -o * -r = o * r := by grind
  have e3 : -c1 * -c2 = c1 * c2 := by grind
  simp only [e1, e2, e3, ab_neg]
theorem met_ok {p q : Pt} {g : Gt} {top den : Int} (hp : bP p) (hq : bP q) (hn : p ≠ q) (hg : GOk g) (hf : Fr (top, den)) :
    MetOk (onAt p q g) (fr (top, den)) (metP (cr g.1 g.2 p) (cr g.1 g.2 q) (cr p q g.1) (cr p q g.2) (dt p q p g.1) (dt p q p g.2) (sq p q) top den) := by
  obtain ⟨hb, ⟨h1, h2⟩ | ⟨h1, h2⟩⟩ := hg
  · exact met_v hp hq hn hb h1 h2 hf
  · have q1 := met_v (p := sw p) (q := sw q) (g := swG g) (top := top) (den := den) ⟨hp.2, hp.1⟩ ⟨hq.2, hq.1⟩ (fun e => hn (Prod.ext (congrArg Prod.snd e) (congrArg Prod.fst e))) ⟨⟨hb.1.2, hb.1.1⟩, hb.2.2, hb.2.1⟩ h1 h2 hf
    have e : onAt (sw p) (sw q) (swG g) = onAt p q g := by
      funext t
      unfold onAt
      exact propext and_comm
    rw [e] at q1
    unfold swG at q1
    rw [cr_sw, cr_sw, cr_sw, cr_sw, dt_sw, dt_sw, sq_sw, metP_neg] at q1
    exact q1
end W
set_option Elab.async false
set_option linter.all false
set_option maxRecDepth 100000
set_option maxHeartbeats 1000000
namespace W
open PySem L2 Mi
abbrev Pos3 := Int × Int × Int
def met (p q : Pt) (g : Gt) (n : Int × Int) : Option (Int × Int) := metP (cr g.1 g.2 p) (cr g.1 g.2 q) (cr p q g.1) (cr p q g.2) (dt p q p g.1) (dt p q p g.2) (sq p q) n.1 n.2
def posn (k : Int) (f : Int × Int) : Pos3 := if f.1 = f.2 then (k + 1, 0, 1) else (k, f.1, f.2)
def inn (p q : Pt) (k : Int) : List Gt → Int × Int → Option (List Pos3)
  | [], _ => some []
  | g :: gs, n => (met p q g n).bind fun f => (inn p q k gs f).map (posn k f :: ·)
def sl2 (gates : List Gt) (c last : Nat) : List Gt := (gates.take last).drop c
def lastN (gates : List Gt) (bends : List Int) (k : Nat) : Nat := match bends[k]? with
  | some b => b.toNat
  | none => gates.length
def closeS (gates : List Gt) (bends : List Int) (q : Pt) (k : Nat) (fd : List Pos3) : Option (List Pos3) := match bends[k]? with
  | none => some fd
  | some b => match gates[b.toNat]? with
    | some g => if fd.length = b.toNat ∧ (g.1 = q ∨ g.2 = q) then some (fd ++ [((k : Int) + 1, 0, 1)]) else none
    | none => none
def seg (gates : List Gt) (bends : List Int) (p q : Pt) (k : Nat) (found : List Pos3) : Option (List Pos3) :=
  (inn p q k (sl2 gates found.length (lastN gates bends k)) (0, 1)).bind fun f => closeS gates bends q k (found ++ f)
def run (gates : List Gt) (bends : List Int) (points : List Pt) : Nat → Nat → List Pos3 → Option (List Pos3)
  | 0, _, found => some found
  | m + 1, k, found => match points[k]?, points[k + 1]? with
    | some p, some q => (seg gates bends p q k found).bind (run gates bends points m (k + 1))
    | _, _ => none
def restP (e : Pt) (k : Int) : List Gt → List Pos3 → Option (List Pos3)
  | [], found => some found
  | g :: gs, found => if cr g.1 g.2 e = 0 ∧ dt e g.1 e g.2 ≤ 0 then restP e k gs (found ++ [(k, 0, 1)]) else none
def thrP (gates : List Gt) (points : List Pt) (bends : List Int) : Option (List Pos3) :=
  if bends.length = points.length - 2 then (run gates bends points (points.length - 1) 0 []).bind fun found => match points.getLast? with
    | some e => restP e ((points.length : Int) - 1) (gates.drop found.length) found
    | none => none
  else none
structure StrOk (gates : List Gt) (points : List Pt) (bends : List Int) : Prop where
  g : ∀ g ∈ gates, GOk g
  gl : gates.length ≤ 1000
  p : ∀ p ∈ points, bP p
  pl : points.length ≤ 1000
  p0 : points ≠ []
  ne : ∀ (i : Nat) a b, points[i]? = some a → points[i + 1]? = some b → a ≠ b
  b : ∀ b ∈ bends, 0 ≤ b ∧ b < gates.length
  bl : bends.length ≤ 1000
theorem sl2_cons {gates : List Gt} {c last : Nat} {g : Gt} (h : c < last) (hg : gates[c]? = some g) : sl2 gates c last = g :: sl2 gates (c + 1) last := by
  unfold sl2
  have hl := (List.getElem?_eq_some_iff.mp hg).1
  have e : (gates.take last)[c]? = some g := by rw [List.getElem?_take, if_pos h]; exact hg
  obtain ⟨h1, h2⟩ := List.getElem?_eq_some_iff.mp e
  rw [List.drop_eq_getElem_cons h1, h2]
theorem sl2_nil {gates : List Gt} {c last : Nat} (h : last ≤ c) : sl2 gates c last = [] := by
  unfold sl2
  exact List.drop_eq_nil_of_le (by rw [List.length_take]; omega)
theorem frz : Fr (0, 1) := ⟨by decide, by decide, by decide, by decide⟩
section
variable {gates : List Gt} {points : List Pt} {bends : List Int}
theorem last_at {α : Type} {xs : List α} {e : α} (h : xs.getLast? = some e) : Pl.at_ xs ((xs.length : Int) - 1) = some e ∧ Pl.at_ xs (-1) = some e := by
  obtain ⟨u, rfl⟩ := List.getLast?_eq_some_iff.mp h
  refine ⟨at_t (n := u.length) (by rw [List.length_append, List.length_singleton]; omega) ?_, at_last⟩
  rw [List.getElem?_append_right (Nat.le_refl _), Nat.sub_self]
  rfl
end
end W
set_option Elab.async false
set_option linter.all false
set_option maxRecDepth 100000
set_option maxHeartbeats 1000000
namespace W
open PySem L2 Mi
structure Sm1 (a b : Pos3) : Prop where
  k : a.1 = b.1
  fa : Fr a.2
  fb : Fr b.2
  e : fr a.2 = fr b.2
inductive Sm : List Pos3 → List Pos3 → Prop
  | nil : Sm [] []
  | cons {a b : Pos3} {as bs : List Pos3} : Sm1 a b → Sm as bs → Sm (a :: as) (b :: bs)
theorem Sm.length : ∀ {as bs : List Pos3}, Sm as bs → as.length = bs.length
  | _, _, .nil => rfl
  | _, _, .cons _ h => by rw [List.length_cons, List.length_cons, Sm.length h]
theorem Sm.snoc {a b : Pos3} (h1 : Sm1 a b) : ∀ {as bs : List Pos3}, Sm as bs → Sm (as ++ [a]) (bs ++ [b])
  | _, _, .nil => .cons h1 .nil
  | _, _, .cons h t => .cons h (Sm.snoc h1 t)
theorem Sm.get : ∀ {as bs : List Pos3} {i : Nat} {a b : Pos3}, Sm as bs → as[i]? = some a → bs[i]? = some b → Sm1 a b
  | _, _, _, _, _, .nil, h, _ => by simp at h
  | _, _, 0, _, _, .cons h _, h1, h2 => by
    simp at h1 h2
    rw [← h1, ← h2]
    exact h
  | _, _, i + 1, _, _, .cons _ t, h1, h2 => Sm.get t (i := i) (by simpa using h1) (by simpa using h2)
theorem Fr.one {f : Int × Int} (h : Fr f) : f.1 = f.2 ↔ fr f = 1 := by
  rw [← fr1, fr_eq h.p (by decide)]
  simp
section
variable {gates : List Gt} {points : List Pt} {bends : List Int}
theorem on_dt {g : Gt} {e : Pt} : sq g.1 e + sq e g.2 ≤ sq g.1 g.2 ↔ dt e g.1 e g.2 ≤ 0 := by
  have : sq g.1 g.2 = sq g.1 e + sq e g.2 - 2 * dt e g.1 e g.2 := by unfold sq dt; grind
  omega
end
end W
set_option Elab.async false
set_option linter.all false
set_option maxRecDepth 100000
set_option maxHeartbeats 1000000
namespace W
open PySem L2 Mi
def inner (pt : Pt) (g : Gt) : Pt := if g.1 = pt then g.2 else g.1
def holdP (b pt a : Pt) (g : Gt) : Bool := decide (dt pt a pt (inner pt g) * ab (dt pt a pt (inner pt g)) * sq b pt ≤ dt b pt pt (inner pt g) * ab (dt b pt pt (inner pt g)) * sq pt a)
def strP (a b c : Pt) : Bool := decide (cr a b c = 0) && decide (0 < dt a b b c)
theorem scale_le {k x y : Int} (hk : 0 < k) : k * x ≤ k * y ↔ x ≤ y := ⟨fun h => Int.le_of_mul_le_mul_left h hk, fun h => Int.mul_le_mul_of_nonneg_left h (by omega)⟩
section
variable {gates : List Gt} {points : List Pt} {bends : List Int}
/-- the bend of number i is a turn, and holds -/
def okB (gates : List Gt) (points : List Pt) (bends : List Int) (i : Nat) : Bool := match points[i]?, points[i + 1]?, points[i + 2]?, bends[i]? with
  | some a, some b, some c, some j => match gates[j.toNat]? with
    | some g => !strP a b c && holdP a b c g
    | none => false
  | _, _, _, _ => false
def tautP (gates : List Gt) (points : List Pt) (bends : List Int) : Bool := (thrP gates points bends).isSome && (Pl.rng 0 (bends.length : Int)).all fun i => okB gates points bends i.toNat
end
end W
set_option Elab.async false
set_option linter.all false
set_option maxRecDepth 100000
set_option maxHeartbeats 2000000
namespace W
open PySem L2 Mi
def sg (g : Gt) (x : Pt) : Int := cr g.1 g.2 x
def onG (g : Gt) (x : Pt) : Prop := cr g.1 g.2 x = 0 ∧ dt x g.1 x g.2 ≤ 0
theorem cr_cyc (a b c : Pt) : cr a b c = cr b c a := by unfold cr; grind
theorem cr_swap (a b c : Pt) : cr a c b = - cr a b c := by unfold cr; grind
theorem cr_aa (a b : Pt) : cr a b b = 0 := by unfold cr; grind
theorem cr_ba (a b : Pt) : cr a b a = 0 := by unfold cr; grind
/-- three directions and a linear functional -/
theorem three_w (g : Gt) (a x y z : Pt) : (sg g x - sg g a) * cr a y z + (sg g y - sg g a) * cr a z x + (sg g z - sg g a) * cr a x y = 0 := by
  unfold sg cr
  grind
theorem pluck (a x y u v : Pt) : cr a x y * cr a u v = cr a u y * cr a x v - cr a u x * cr a y v := by unfold cr; grind
theorem sg_gate (g : Gt) (a : Pt) : cr a g.1 g.2 = sg g a := by unfold sg; rw [cr_cyc]
theorem sg_1 (g : Gt) : sg g g.1 = 0 := by unfold sg; exact cr_ba _ _
theorem sg_2 (g : Gt) : sg g g.2 = 0 := by unfold sg; exact cr_aa _ _
theorem pos_of_mul {k x : Int} (hk : 0 < k) (h : 0 < k * x) : 0 < x := by
  rcases Int.lt_or_le 0 x with c | c
  · exact c
  · have := Int.mul_nonneg (show 0 ≤ k by omega) (show 0 ≤ -x by omega)
    exact absurd h (by grind)
theorem nonneg_of_mul {k x : Int} (hk : 0 < k) (h : 0 ≤ k * x) : 0 ≤ x := by
  rcases Int.lt_or_le x 0 with c | c
  · have := Int.mul_pos hk (show 0 < -x by omega)
    exact absurd h (by grind)
  · exact c
/-- gates of one rectangle, the one behind the other -/
structure AdjS (g g' : Gt) : Prop where
  a : 0 < sg g g'.1
  b : 0 < sg g g'.2
  c : sg g' g.1 < 0
  d : sg g' g.2 < 0
/-- .. on one line, apart -/
structure AdjC (g g' : Gt) : Prop where
  a : sg g g'.1 = 0
  b : sg g g'.2 = 0
  c : sg g' g.1 = 0
  d : sg g' g.2 = 0
  o : dt g.1 g.2 g'.1 g'.2 < 0
  s : (0 < dt g.1 g.2 g.1 g'.1 ∧ 0 < dt g.1 g.2 g.1 g'.2 ∧ 0 < dt g.1 g.2 g.2 g'.1 ∧ 0 < dt g.1 g.2 g.2 g'.2) ∨ (dt g.1 g.2 g.1 g'.1 < 0 ∧ dt g.1 g.2 g.1 g'.2 < 0 ∧ dt g.1 g.2 g.2 g'.1 < 0 ∧ dt g.1 g.2 g.2 g'.2 < 0)
def Adj (g g' : Gt) : Prop := AdjS g g' ∨ AdjC g g'
/-- on the gate's line -/
theorem line_cr (g : Gt) (a x y : Pt) (hx : sg g x = 0) (hy : sg g y = 0) : cr a x y * sq g.1 g.2 = dt g.1 g.2 x y * sg g a := by
  unfold sg cr at hx hy
  unfold sg cr sq dt
  grind
theorem sq_ne {g : Gt} (h : GOk g) : 0 < sq g.1 g.2 := by
  obtain ⟨_, ⟨e1, e2⟩ | ⟨e1, e2⟩⟩ := h
  · have : g.1.2 - g.2.2 ≠ 0 := by omega
    have h1 := sqn (g.1.2 - g.2.2)
    have h2 : (g.1.2 - g.2.2) * (g.1.2 - g.2.2) ≠ 0 := fun e => by rw [Int.mul_eq_zero] at e; omega
    unfold sq
    rw [e1, Int.sub_self, Int.zero_mul]
    omega
  · have : g.1.1 - g.2.1 ≠ 0 := by omega
    have h1 := sqn (g.1.1 - g.2.1)
    have h2 : (g.1.1 - g.2.1) * (g.1.1 - g.2.1) ≠ 0 := fun e => by rw [Int.mul_eq_zero] at e; omega
    unfold sq
    rw [e1, Int.sub_self, Int.zero_mul]
    omega
/-- from before a gate, the next one is seen on one side of it, unless it is seen the right way -/
theorem rev_side {g g' : Gt} {a : Pt} (hg : GOk g) (h : Adj g g') (ha : sg g a < 0) (hr : 0 ≤ sg g' a) :
    (0 < cr a g.1 g'.1 ∧ 0 < cr a g.1 g'.2 ∧ 0 < cr a g.2 g'.1 ∧ 0 < cr a g.2 g'.2) ∨ (cr a g.1 g'.1 < 0 ∧ cr a g.1 g'.2 < 0 ∧ cr a g.2 g'.1 < 0 ∧ cr a g.2 g'.2 < 0) := by
  rcases h with h | h
  · obtain ⟨h1, h2, h3, h4⟩ := h
    -- the sign is that of G = sg g g'.2 - sg g g'.1
    have key : ∀ x y z : Pt, ((x = g.1 ∨ x = g.2) ∧ ((y = g'.1 ∧ z = g'.2) ∨ (y = g'.2 ∧ z = g'.1))) → True := fun _ _ _ _ => trivial
    have i11 : cr a g.1 g'.1 * (sg g g'.2 - sg g g'.1) = sg g' a * sg g g'.1 + sg g' g.1 * (sg g a - sg g g'.1) := by
      unfold sg cr; grind
    have i12 : cr a g.1 g'.2 * (sg g g'.2 - sg g g'.1) = sg g' a * sg g g'.2 + sg g' g.1 * (sg g a - sg g g'.2) := by
      unfold sg cr; grind
    have i21 : cr a g.2 g'.1 * (sg g g'.2 - sg g g'.1) = sg g' a * sg g g'.1 + sg g' g.2 * (sg g a - sg g g'.1) := by
      unfold sg cr; grind
    have i22 : cr a g.2 g'.2 * (sg g g'.2 - sg g g'.1) = sg g' a * sg g g'.2 + sg g' g.2 * (sg g a - sg g g'.2) := by
      unfold sg cr; grind
    have p1 := Int.mul_nonneg hr (show 0 ≤ sg g g'.1 by omega)
    have p2 := Int.mul_nonneg hr (show 0 ≤ sg g g'.2 by omega)
    have q11 := Int.mul_pos_of_neg_of_neg h3 (show sg g a - sg g g'.1 < 0 by omega)
    have q12 := Int.mul_pos_of_neg_of_neg h3 (show sg g a - sg g g'.2 < 0 by omega)
    have q21 := Int.mul_pos_of_neg_of_neg h4 (show sg g a - sg g g'.1 < 0 by omega)
    have q22 := Int.mul_pos_of_neg_of_neg h4 (show sg g a - sg g g'.2 < 0 by omega)
    rcases Int.lt_trichotomy (sg g g'.2 - sg g g'.1) 0 with c | c | c
    · right
      have neg : ∀ x : Int, 0 < x * (sg g g'.2 - sg g g'.1) → x < 0 := fun x hx => by
        have := pos_of_mul (k := -(sg g g'.2 - sg g g'.1)) (x := -x) (by omega) (by grind)
        omega
      exact ⟨neg _ (by omega), neg _ (by omega), neg _ (by omega), neg _ (by omega)⟩
    · rw [c, Int.mul_zero] at i11
      omega
    · left
      have posi : ∀ x : Int, 0 < x * (sg g g'.2 - sg g g'.1) → 0 < x := fun x hx => pos_of_mul c (by rw [Int.mul_comm]; exact hx)
      exact ⟨posi _ (by omega), posi _ (by omega), posi _ (by omega), posi _ (by omega)⟩
  · have hs := sq_ne hg
    have l11 := line_cr g a g.1 g'.1 (sg_1 g) h.a
    have l12 := line_cr g a g.1 g'.2 (sg_1 g) h.b
    have l21 := line_cr g a g.2 g'.1 (sg_2 g) h.a
    have l22 := line_cr g a g.2 g'.2 (sg_2 g) h.b
    have posi : ∀ x d : Int, x * sq g.1 g.2 = d * sg g a → d < 0 → 0 < x := fun x d e hd => pos_of_mul hs (by rw [Int.mul_comm, e]; exact Int.mul_pos_of_neg_of_neg hd ha)
    have neg : ∀ x d : Int, x * sq g.1 g.2 = d * sg g a → 0 < d → x < 0 := fun x d e hd => by
      have := pos_of_mul (x := -x) hs (by
        have := Int.mul_pos hd (show 0 < -sg g a by omega)
        grind)
      omega
    rcases h.s with ⟨s1, s2, s3, s4⟩ | ⟨s1, s2, s3, s4⟩
    · exact .inr ⟨neg _ _ l11 s1, neg _ _ l12 s2, neg _ _ l21 s3, neg _ _ l22 s4⟩
    · exact .inl ⟨posi _ _ l11 s1, posi _ _ l12 s2, posi _ _ l21 s3, posi _ _ l22 s4⟩
/-- the ray to x crosses the gate -/
structure Thru (g : Gt) (a x : Pt) : Prop where
  n : sg g a < 0
  l : cr a g.1 x ≤ 0
  r : 0 ≤ cr a g.2 x
theorem Thru.id {g : Gt} {a x : Pt} : sg g x - sg g a = cr a g.2 x - cr a g.1 x := by
  unfold sg cr; grind
/-- such a ray points forward -/
theorem Thru.fwd {g h : Gt} {a x : Pt} (t : Thru g a x) (hx : sg h x ≠ sg h a) : 0 < sg g x - sg g a := by
  have e := Thru.id (g := g) (a := a) (x := x)
  have h1 := t.l
  have h2 := t.r
  rcases Int.lt_or_le 0 (sg g x - sg g a) with c | c
  · exact c
  · exfalso
    have z1 : cr a g.1 x = 0 := by omega
    have z2 : cr a g.2 x = 0 := by omega
    have w := three_w h a g.1 g.2 x
    rw [z2, cr_swap, z1, sg_gate, Int.mul_zero] at w
    have : (sg h x - sg h a) * sg g a = 0 := by grind
    rw [Int.mul_eq_zero] at this
    have := t.n
    omega
/-- what is said of both ends holds of the ray -/
theorem Thru.side {g h : Gt} {a x y : Pt} (t : Thru g a x) (hx : sg h x ≠ sg h a) (h1 : 0 < cr a g.1 y) (h2 : 0 < cr a g.2 y) : 0 < cr a x y := by
  have f := t.fwd hx
  have e := Thru.id (g := g) (a := a) (x := x)
  have p := pluck a g.1 g.2 x y
  rw [sg_gate] at p
  have n := t.n; have l := t.l; have r := t.r
  have q1 := Int.mul_nonneg r (show 0 ≤ cr a g.1 y by omega)
  have q2 := Int.mul_nonneg (show 0 ≤ -cr a g.1 x by omega) (show 0 ≤ cr a g.2 y by omega)
  rw [cr_swap a g.2 x, cr_swap a g.1 x] at p
  have lt : 0 < cr a g.2 x * cr a g.1 y + -cr a g.1 x * cr a g.2 y := by
    rcases Int.lt_or_le 0 (cr a g.2 x) with c | c
    · have := Int.mul_pos c h1
      omega
    · have := Int.mul_pos (show 0 < -cr a g.1 x by omega) h2
      omega
  exact pos_of_mul (k := -sg g a) (by omega) (by grind)
theorem Thru.side2 {g h : Gt} {a x y : Pt} (t : Thru g a x) (hx : sg h x ≠ sg h a) (h1 : cr a g.1 y < 0) (h2 : cr a g.2 y < 0) : cr a x y < 0 := by
  have f := t.fwd hx
  have e := Thru.id (g := g) (a := a) (x := x)
  have p := pluck a g.1 g.2 x y
  rw [sg_gate] at p
  have n := t.n; have l := t.l; have r := t.r
  have q1 := Int.mul_nonneg r (show 0 ≤ -cr a g.1 y by omega)
  have q2 := Int.mul_nonneg (show 0 ≤ -cr a g.1 x by omega) (show 0 ≤ -cr a g.2 y by omega)
  rw [cr_swap a g.2 x, cr_swap a g.1 x] at p
  have lt : 0 < cr a g.2 x * -cr a g.1 y + -cr a g.1 x * -cr a g.2 y := by
    rcases Int.lt_or_le 0 (cr a g.2 x) with c | c
    · have := Int.mul_pos c (show 0 < -cr a g.1 y by omega)
      omega
    · have := Int.mul_pos (show 0 < -cr a g.1 x by omega) (show 0 < -cr a g.2 y by omega)
      omega
  have := pos_of_mul (k := -sg g a) (x := -cr a x y) (by omega) (by grind)
  omega
/-- between two rays -/
theorem btw {w : Gt} {a L R x y : Pt} (wL : 0 < sg w L - sg w a) (wR : 0 < sg w R - sg w a) (wx : 0 < sg w x - sg w a) (hLR : cr a L R ≤ 0) (h1 : cr a L x ≤ 0) (h2 : 0 ≤ cr a R x) :
    (cr a y L ≤ 0 → cr a y R ≤ 0 → cr a y x ≤ 0) ∧ (0 ≤ cr a y L → 0 ≤ cr a y R → 0 ≤ cr a y x) := by
  have p := pluck a L R y x
  rw [cr_swap a R y, cr_swap a L y] at p
  have p2 : cr a L R * cr a y x = cr a y R * cr a L x - cr a y L * cr a R x := by
    rw [cr_swap a y R, cr_swap a y L] at p
    grind
  rcases Int.lt_or_le (cr a L R) 0 with c | c
  · constructor
    · intro q1 q2
      have m1 := Int.mul_nonneg (show 0 ≤ -cr a y R by omega) (show 0 ≤ -cr a L x by omega)
      have m2 := Int.mul_nonneg (show 0 ≤ -cr a y L by omega) h2
      have := nonneg_of_mul (k := -cr a L R) (x := -cr a y x) (by omega) (by grind)
      omega
    · intro q1 q2
      have m1 := Int.mul_nonneg q2 (show 0 ≤ -cr a L x by omega)
      have m2 := Int.mul_nonneg q1 h2
      exact nonneg_of_mul (k := -cr a L R) (by omega) (by grind)
  · have c0 : cr a L R = 0 := by omega
    have t1 := three_w w a L R x
    rw [c0, Int.mul_zero, cr_swap a L x] at t1
    have m1 := Int.mul_nonneg (show 0 ≤ sg w L - sg w a by omega) h2
    have m2 := Int.mul_nonneg (show 0 ≤ sg w R - sg w a by omega) (show 0 ≤ -cr a L x by omega)
    have z : (sg w R - sg w a) * -cr a L x = 0 := by omega
    rw [Int.mul_eq_zero] at z
    have z1 : cr a L x = 0 := by omega
    have t2 := three_w w a L y x
    rw [cr_swap a L x, z1, cr_swap a y L] at t2
    have e : (sg w L - sg w a) * cr a y x = (sg w x - sg w a) * cr a y L := by grind
    constructor
    · intro q1 _
      have := Int.mul_nonneg (show 0 ≤ sg w x - sg w a by omega) (show 0 ≤ -cr a y L by omega)
      have := nonneg_of_mul (k := sg w L - sg w a) (x := -cr a y x) wL (by grind)
      omega
    · intro q1 _
      have := Int.mul_nonneg (show 0 ≤ sg w x - sg w a by omega) q1
      exact nonneg_of_mul wL (by grind)
end W
set_option Elab.async false
set_option linter.all false
set_option maxRecDepth 100000
set_option maxHeartbeats 2000000
namespace W
open PySem L2 Mi
structure Cor (gates : List Gt) : Prop where
  g : ∀ g ∈ gates, GOk g
  n : gates.length ≤ 500
  adj : ∀ (i : Nat) g g', gates[i]? = some g → gates[i + 1]? = some g' → Adj g g'
def Pass (gates : List Gt) (a : Pt) (f b : Nat) (x : Pt) : Prop := ∀ (k : Nat) g, f ≤ k → k < b → gates[k]? = some g → Thru g a x
def cs (ε : Bool) (a x y : Pt) : Int := if ε = true then cr a x y else - cr a x y
def fe (ε : Bool) (g : Gt) : Pt := if ε = true then g.1 else g.2
structure Bend (gates : List Gt) (e a : Pt) (f : Nat) (ε : Bool) (P : Pt) (i at_ : Nat) : Prop where
  g : ∃ g, gates[i]? = some g ∧ P = fe ε g
  fi : f ≤ i
  ia : i < at_
  an : at_ ≤ gates.length
  ps : Pass gates a f at_ P
  md : ∀ (k : Nat) g', i < k → k < at_ → gates[k]? = some g' → 0 < cs ε a P (fe ε g')
  bl : ∀ g', gates[at_]? = some g' → 0 < cs ε a P g'.1 ∧ 0 < cs ε a P g'.2
  en : at_ = gates.length → 0 < cs ε a P e
def near (g : Gt) (a : Pt) : Pt := if sq g.1 a ≤ sq g.2 a then g.1 else g.2
def NB (gates : List Gt) (e a : Pt) (f : Nat) : FB → Prop
  | none => Pass gates a f gates.length e
  | some (P, i) => ∃ iN : Nat, i = (iN : Int) ∧ ((iN = f ∧ ∃ g, gates[f]? = some g ∧ sg g a = 0 ∧ ¬ onG g a ∧ P = near g a) ∨ ∃ ε at_, Bend gates e a f ε P iN at_)
structure Start (gates : List Gt) (a : Pt) (first f : Nat) : Prop where
  hf : f = first ∨ (f = first + 1 ∧ ∃ g, gates[first]? = some g ∧ onG g a)
  ha : ∀ g, gates[f]? = some g → sg g a < 0 ∨ (sg g a = 0 ∧ ¬ onG g a)
structure Cn (gates : List Gt) (a : Pt) (f at_ : Nat) (L : Pt) (i : Nat) (R : Pt) (j : Nat) : Prop where
  k : f < at_
  li : ∃ g, gates[i]? = some g ∧ L = g.1
  fi : f ≤ i
  ia : i < at_
  rj : ∃ g, gates[j]? = some g ∧ R = g.2
  fj : f ≤ j
  ja : j < at_
  pl : Pass gates a f at_ L
  pr : Pass gates a f at_ R
  lr : cr a L R ≤ 0
  lt : ∀ (k : Nat) g, i < k → k < at_ → gates[k]? = some g → 0 < cr a L g.1
  rt : ∀ (k : Nat) g, j < k → k < at_ → gates[k]? = some g → cr a R g.2 < 0
section
variable {gates : List Gt} {a e : Pt} {f at_ i j : Nat} {L R : Pt}
theorem Cn.neL (c : Cn gates a f at_ L i R j) : ∃ h : Gt, sg h L ≠ sg h a := by
  obtain ⟨g, e1, e2⟩ := c.li
  have t := c.pl i g c.fi c.ia e1
  refine ⟨g, ?_⟩
  rw [e2, sg_1]
  have := t.n
  omega
theorem Cn.neR (c : Cn gates a f at_ L i R j) : ∃ h : Gt, sg h R ≠ sg h a := by
  obtain ⟨g, e1, e2⟩ := c.rj
  have t := c.pr j g c.fj c.ja e1
  refine ⟨g, ?_⟩
  rw [e2, sg_2]
  have := t.n
  omega
theorem Cn.fw (c : Cn gates a f at_ L i R j) {m : Nat} {g : Gt} (hm : m + 1 = at_) (hg : gates[m]? = some g) : sg g a < 0 ∧ 0 < sg g L - sg g a ∧ 0 < sg g R - sg g a := by
  have k := c.k
  obtain ⟨h1, n1⟩ := c.neL
  obtain ⟨h2, n2⟩ := c.neR
  have t1 := c.pl m g (by omega) (by omega) hg
  have t2 := c.pr m g (by omega) (by omega) hg
  exact ⟨t1.n, t1.fwd n1, t2.fwd n2⟩
theorem Adj.fwd {g g' : Gt} (h : Adj g g') : 0 ≤ sg g g'.1 ∧ 0 ≤ sg g g'.2 := by
  rcases h with h | h
  · exact ⟨Int.le_of_lt h.a, Int.le_of_lt h.b⟩
  · exact ⟨Int.le_of_eq h.a.symm, Int.le_of_eq h.b.symm⟩
theorem thru1 {g : Gt} (h : sg g a < 0) : Thru g a g.1 := ⟨h, by rw [cr_aa]; exact Int.le_refl _, by rw [cr_swap, sg_gate]; omega⟩
theorem thru2 {g : Gt} (h : sg g a < 0) : Thru g a g.2 := ⟨h, by rw [sg_gate]; omega, by rw [cr_aa]; exact Int.le_refl _⟩
/-- a new point that lies in the cone is seen through all gates so far -/
theorem Cn.inn (c : Cn gates a f at_ L i R j) {x : Pt} {m : Nat} {w : Gt} (hm : m + 1 = at_) (hw : gates[m]? = some w) (wx : 0 < sg w x - sg w a) (h1 : cr a L x ≤ 0) (h2 : 0 ≤ cr a R x) : Pass gates a f at_ x := fun k g hk hk2 hg => by
  obtain ⟨_, wL, wR⟩ := c.fw hm hw
  have tL := c.pl k g hk hk2 hg
  have tR := c.pr k g hk hk2 hg
  have b := fun y => btw (y := y) wL wR wx c.lr h1 h2
  exact ⟨tL.n, (b g.1).1 tL.l tR.l, (b g.2).2 tL.r tR.r⟩
theorem Pass.snoc {x : Pt} (h : Pass gates a f at_ x) {g : Gt} (hg : gates[at_]? = some g) (t : Thru g a x) : Pass gates a f (at_ + 1) x := fun k g' h1 h2 h3 => by
  by_cases c : k = at_
  · subst c
    rw [hg] at h3
    cases h3
    exact t
  · exact h k g' h1 (by omega) h3
theorem Cn.begin {g : Gt} (hg : gates[f]? = some g) (h : sg g a < 0) : Cn gates a f (f + 1) g.1 f g.2 f := by
  refine ⟨by omega, ⟨g, hg, rfl⟩, by omega, by omega, ⟨g, hg, rfl⟩, by omega, by omega, fun k g' h1 h2 h3 => ?_, fun k g' h1 h2 h3 => ?_, by rw [sg_gate]; omega, fun k _ h1 h2 _ => absurd h1 (by omega), fun k _ h1 h2 _ => absurd h1 (by omega)⟩
  · have : k = f := by omega
    subst this
    rw [hg] at h3
    cases h3
    exact thru1 h
  · have : k = f := by omega
    subst this
    rw [hg] at h3
    cases h3
    exact thru2 h
/-- the cone gets narrower -/
theorem Cn.step (c : Cn gates a f at_ L i R j) {m : Nat} {w g : Gt} (hm : m + 1 = at_) (hw : gates[m]? = some w) (hg : gates[at_]? = some g) (ad : Adj w g) (hn : sg g a < 0) (hl : cr a L g.2 ≤ 0) (hr : 0 ≤ cr a R g.1) :
    Cn gates a f (at_ + 1) (if cr a L g.1 ≤ 0 then g.1 else L) (if cr a L g.1 ≤ 0 then at_ else i) (if 0 ≤ cr a R g.2 then g.2 else R) (if 0 ≤ cr a R g.2 then at_ else j) := by
  obtain ⟨wn, wL, wR⟩ := c.fw hm hw
  obtain ⟨f1, f2⟩ := ad.fwd
  have k := c.k; have fi := c.fi; have ia := c.ia; have fj := c.fj; have ja := c.ja
  have gg := sg_gate g a
  have x1 : cr a g.1 R ≤ 0 := by rw [cr_swap]; omega
  have x2 : 0 ≤ cr a g.2 L := by rw [cr_swap]; omega
  -- left
  have hL : (∃ g', gates[if cr a L g.1 ≤ 0 then at_ else i]? = some g' ∧ (if cr a L g.1 ≤ 0 then g.1 else L) = g'.1) ∧ f ≤ (if cr a L g.1 ≤ 0 then at_ else i) ∧ (if cr a L g.1 ≤ 0 then at_ else i) < at_ + 1 ∧ Pass gates a f (at_ + 1) (if cr a L g.1 ≤ 0 then g.1 else L) ∧ (∀ (k : Nat) g', (if cr a L g.1 ≤ 0 then at_ else i) < k → k < at_ + 1 → gates[k]? = some g' → 0 < cr a (if cr a L g.1 ≤ 0 then g.1 else L) g'.1) := by
    by_cases h : cr a L g.1 ≤ 0
    · simp only [if_pos h]
      exact ⟨⟨g, hg, rfl⟩, by omega, by omega, (c.inn hm hw (by omega) h hr).snoc hg (thru1 hn), fun k _ h1 h2 _ => absurd h1 (by omega)⟩
    · simp only [if_neg h]
      refine ⟨c.li, fi, by omega, c.pl.snoc hg ⟨hn, by rw [cr_swap]; omega, x2⟩, fun k g' h1 h2 h3 => ?_⟩
      by_cases e : k = at_
      · subst e
        rw [hg] at h3
        cases h3
        omega
      · exact c.lt k g' h1 (by omega) h3
  have hR : (∃ g', gates[if 0 ≤ cr a R g.2 then at_ else j]? = some g' ∧ (if 0 ≤ cr a R g.2 then g.2 else R) = g'.2) ∧ f ≤ (if 0 ≤ cr a R g.2 then at_ else j) ∧ (if 0 ≤ cr a R g.2 then at_ else j) < at_ + 1 ∧ Pass gates a f (at_ + 1) (if 0 ≤ cr a R g.2 then g.2 else R) ∧ (∀ (k : Nat) g', (if 0 ≤ cr a R g.2 then at_ else j) < k → k < at_ + 1 → gates[k]? = some g' → cr a (if 0 ≤ cr a R g.2 then g.2 else R) g'.2 < 0) := by
    by_cases h : 0 ≤ cr a R g.2
    · simp only [if_pos h]
      exact ⟨⟨g, hg, rfl⟩, by omega, by omega, (c.inn hm hw (by omega) hl h).snoc hg (thru2 hn), fun k _ h1 h2 _ => absurd h1 (by omega)⟩
    · simp only [if_neg h]
      refine ⟨c.rj, fj, by omega, c.pr.snoc hg ⟨hn, x1, by rw [cr_swap]; omega⟩, fun k g' h1 h2 h3 => ?_⟩
      by_cases e : k = at_
      · subst e
        rw [hg] at h3
        cases h3
        omega
      · exact c.rt k g' h1 (by omega) h3
  refine ⟨by omega, hL.1, hL.2.1, hL.2.2.1, hR.1, hR.2.1, hR.2.2.1, hL.2.2.2.1, hR.2.2.2.1, ?_, hL.2.2.2.2, hR.2.2.2.2⟩
  have lr := c.lr
  split <;> split <;> omega
/-- a gate that is seen the right way, and missed on the left -/
theorem Cn.missL (c : Cn gates a f at_ L i R j) {m : Nat} {w g : Gt} (hm : m + 1 = at_) (hw : gates[m]? = some w) (ad : Adj w g) (hn : sg g a < 0) (h : 0 < cr a L g.2) : 0 < cr a L g.1 := by
  obtain ⟨wn, wL, wR⟩ := c.fw hm hw
  obtain ⟨f1, f2⟩ := ad.fwd
  have t := three_w w a L g.1 g.2
  rw [sg_gate, cr_swap a L g.2] at t
  have m1 := Int.mul_pos (show 0 < sg w g.1 - sg w a by omega) h
  have m2 := Int.mul_pos wL (show 0 < -sg g a by omega)
  exact pos_of_mul (k := sg w g.2 - sg w a) (by omega) (by grind)
theorem Cn.missR (c : Cn gates a f at_ L i R j) {m : Nat} {w g : Gt} (hm : m + 1 = at_) (hw : gates[m]? = some w) (ad : Adj w g) (hn : sg g a < 0) (h : cr a R g.1 < 0) : cr a R g.2 < 0 := by
  obtain ⟨wn, wL, wR⟩ := c.fw hm hw
  obtain ⟨f1, f2⟩ := ad.fwd
  have t := three_w w a R g.1 g.2
  rw [sg_gate, cr_swap a R g.2] at t
  have m1 := Int.mul_pos (show 0 < sg w g.2 - sg w a by omega) (show 0 < -cr a R g.1 by omega)
  have m2 := Int.mul_pos wR (show 0 < -sg g a by omega)
  have := pos_of_mul (k := sg w g.1 - sg w a) (x := -cr a R g.2) (by omega) (by grind)
  omega
theorem Cn.bendL (c : Cn gates a f at_ L i R j) (an : at_ ≤ gates.length) (bl : ∀ g', gates[at_]? = some g' → 0 < cr a L g'.1 ∧ 0 < cr a L g'.2) (en : at_ = gates.length → 0 < cr a L e) : Bend gates e a f true L i at_ :=
  ⟨c.li, c.fi, c.ia, an, c.pl, c.lt, bl, en⟩
theorem Cn.bendR (c : Cn gates a f at_ L i R j) (an : at_ ≤ gates.length) (bl : ∀ g', gates[at_]? = some g' → cr a R g'.1 < 0 ∧ cr a R g'.2 < 0) (en : at_ = gates.length → cr a R e < 0) : Bend gates e a f false R j at_ :=
  ⟨c.rj, c.fj, c.ja, an, c.pr, fun k g' h1 h2 h3 => by
    have := c.rt k g' h1 h2 h3
    show 0 < - cr a R g'.2
    omega, fun g' h => by
    have := bl g' h
    show 0 < - cr a R g'.1 ∧ 0 < - cr a R g'.2
    omega, fun h => by
    have := en h
    show 0 < - cr a R e
    omega⟩
theorem nearC {P : Pt → Prop} {g : Gt} {x : Pt} (h : x = g.1 ∨ x = g.2) (h1 : P g.1) (h2 : P g.2) : P x := by
  rcases h with h | h
  · rw [h]; exact h1
  · rw [h]; exact h2
theorem misses_none {x y : Pt} : p_misses a none none x y = some none := rfl
theorem misses_t {i j : Int} (ha : bP a) (hL : bP L) (hR : bP R) {x y : Pt} (hx : bP x) (hy : bP y) : p_misses a (some (L, i)) (some (R, j)) x y = some (if 0 < cr a L y then some (L, i) else if cr a R x < 0 then some (R, j) else none) := by
  unfold p_misses
  rw [if_neg (show ¬ ((some (L, i) : FB).isNone = true) from Bool.false_ne_true), Option.bind_some, cross_t ha hL hy, Option.bind_some, Option.bind_some, cross_t ha hR hx, Option.bind_some]
  by_cases c : 0 < cr a L y
  · rw [if_pos (decide_eq_true c), if_pos c]
  · rw [if_neg (by simpa using c), if_neg c]
    by_cases c2 : cr a R x < 0
    · rw [if_pos (decide_eq_true c2), if_pos c2]
    · rw [if_neg (by simpa using c2), if_neg c2]
theorem narrow_none {g : Gt} {n : Int} : p_narrow a none none g n = some (some (g.1, n), some (g.2, n)) := rfl
theorem narrow_t {i j n : Int} (ha : bP a) (hL : bP L) (hR : bP R) {g : Gt} (hg : bG g) : p_narrow a (some (L, i)) (some (R, j)) g n = some (if cr a L g.1 ≤ 0 then some (g.1, n) else some (L, i), if 0 ≤ cr a R g.2 then some (g.2, n) else some (R, j)) := by
  unfold p_narrow
  rw [Option.bind_some, cross_t ha hL hg.1, Option.bind_some, orO_t, Option.bind_some, Option.bind_some, cross_t ha hR hg.2, Option.bind_some, orO_t]
  by_cases c : cr a L g.1 ≤ 0
  · rw [decide_eq_true c, if_pos c]
    by_cases c2 : 0 ≤ cr a R g.2
    · rw [decide_eq_true c2, if_pos c2]; rfl
    · rw [decide_eq_false c2, if_neg c2]; rfl
  · rw [decide_eq_false c, if_neg c]
    by_cases c2 : 0 ≤ cr a R g.2
    · rw [decide_eq_true c2, if_pos c2]; rfl
    · rw [decide_eq_false c2, if_neg c2]; rfl
theorem near_or (g : Gt) (a : Pt) : near g a = g.1 ∨ near g a = g.2 := by unfold near; split <;> simp
theorem next_t (cor : Cor gates) (ha : bP a) (he : bP e) (hen : ∀ g, gates.getLast? = some g → 0 ≤ sg g e) {first : Nat} (hf0 : first ≤ 100000) (S : Start gates a first f) : Tot (p_next_bend a gates (first : Int) e) (NB gates e a f) := by
  have gn := cor.n
  unfold p_next_bend
  have e0 : f = first ∨ f = first + 1 := S.hf.imp id And.left
  have onb : ∀ g ∈ gates, onG g a → p_on_gate g a = some true := fun g hg h => by
    rw [on_gate_t (cor.g g hg).1 ha, decide_eq_true h.1, decide_eq_true (on_dt.mpr h.2)]
    rfl
  have offb : ∀ g ∈ gates, ¬ onG g a → p_on_gate g a = some false := fun g hg h => by
    rw [on_gate_t (cor.g g hg).1 ha]
    congr 1
    rw [Bool.and_eq_false_iff, decide_eq_false_iff_not, decide_eq_false_iff_not]
    by_cases c : cr g.1 g.2 a = 0
    · exact .inr fun q => h ⟨c, on_dt.mp q⟩
    · exact .inl c
  refine Tot.rngO ⟨by omega, by omega⟩ ?_
  refine Tot.forO (fun xs (s : FB × FB) => ∃ at_ : Nat, xs = Pl.rng (at_ : Int) (gates.length : Int) ∧ first ≤ at_ ∧ ((s = (none, none) ∧ at_ ≤ f) ∨ ∃ (L : Pt) (i : Nat) (R : Pt) (j : Nat), s = (some (L, (i : Int)), some (R, (j : Int))) ∧ at_ ≤ gates.length ∧ Cn gates a f at_ L i R j)) (fun _ => False) (NB gates e a f) ⟨first, rfl, Nat.le_refl _, .inl ⟨rfl, by omega⟩⟩ ?_ ?_ fun r hr => ⟨_, rfl, hr⟩
  · rintro x xs s ⟨at_, hx, hk, hs⟩
    have hlt : (at_ : Int) < (gates.length : Int) := by
      rcases Int.lt_or_le (at_ : Int) (gates.length : Int) with h | h
      · exact h
      · rw [rng_nil h] at hx; cases hx
    rw [rng_cons hlt] at hx
    injection hx with hx1 hx2
    subst hx1
    obtain ⟨g, g1, g2⟩ := at_in (xs := gates) (i := (at_ : Int)) (by omega) hlt
    rw [Int.toNat_natCast] at g1
    have hgm := List.mem_of_getElem? g1
    have gk := cor.g g hgm
    refine Tot.of g2 (Tot.of (cross_t gk.1.1 gk.1.2 ha) ?_)
    show Tot (if decide (sg g a = 0) = true then _ else _) _
    rcases hs with ⟨rfl, hfa⟩ | ⟨L, i, R, j, rfl, hal, c⟩
    · -- nothing is seen yet
      by_cases hf : at_ = f
      · subst hf
        rcases S.ha g g1 with h | ⟨h0, hno⟩
        · refine Tot.iteF (decide_eq_false (by omega)) ?_
          refine Tot.of misses_none (Tot.iteF rfl (Tot.of narrow_none ⟨_, rfl, at_ + 1, hx2, by omega, .inr ⟨g.1, at_, g.2, at_, rfl, by omega, Cn.begin g1 h⟩⟩))
        · refine Tot.iteT (decide_eq_true h0) ?_
          refine Tot.of (r := false) (by show p_on_gate g a = some false; exact offb g hgm hno) (Tot.iteF rfl ?_)
          refine Tot.of (nearer_t gk.1 ha) (Tot.of misses_none ⟨_, rfl, at_, rfl, .inl ⟨rfl, g, g1, h0, hno, rfl⟩⟩)
      · have hf1 : at_ = first ∧ f = first + 1 := by omega
        rcases S.hf with h | ⟨_, g', e1, e2⟩
        · omega
        · rw [hf1.1, e1] at g1
          have hgg : g' = g := Option.some.inj g1
          rw [hgg] at e2
          refine Tot.iteT (decide_eq_true e2.1) ?_
          exact Tot.of (r := true) (by show p_on_gate g a = some true; exact onb g hgm e2) (Tot.iteT rfl ⟨_, rfl, at_ + 1, hx2, by omega, .inl ⟨rfl, by omega⟩⟩)
    · have k := c.k
      obtain ⟨m, hm⟩ : ∃ m, m + 1 = at_ := ⟨at_ - 1, by omega⟩
      have hw := List.getElem?_eq_getElem (l := gates) (i := m) (by omega)
      generalize gates[m] = w at hw
      have wk := cor.g w (List.mem_of_getElem? hw)
      have ad := cor.adj m w g hw (by rw [hm]; exact g1)
      obtain ⟨wn, wL, wR⟩ := c.fw hm hw
      have bL : bP L := by
        obtain ⟨q, q1, q2⟩ := c.li
        rw [q2]
        exact (cor.g q (List.mem_of_getElem? q1)).1.1
      have bR : bP R := by
        obtain ⟨q, q1, q2⟩ := c.rj
        rw [q2]
        exact (cor.g q (List.mem_of_getElem? q1)).1.2
      have tL := c.pl m w (by omega) (by omega) hw
      have tR := c.pr m w (by omega) (by omega) hw
      have left : (0 < cr a L g.1 ∧ 0 < cr a L g.2) → NB gates e a f (some (L, (i : Int))) := fun h => ⟨i, rfl, .inr ⟨true, at_, c.bendL (by omega) (fun g' hg' => by rw [g1] at hg'; cases hg'; exact h) (fun h => by omega)⟩⟩
      have right : (cr a R g.1 < 0 ∧ cr a R g.2 < 0) → NB gates e a f (some (R, (j : Int))) := fun h => ⟨j, rfl, .inr ⟨false, at_, c.bendR (by omega) (fun g' hg' => by rw [g1] at hg'; cases hg'; exact h) (fun h => by omega)⟩⟩
      by_cases hrev : 0 ≤ sg g a
      · -- seen from behind: it lies to one side
        obtain ⟨h1, n1⟩ := c.neL
        obtain ⟨h2, n2⟩ := c.neR
        have side : (0 < cr a L g.1 ∧ 0 < cr a L g.2) ∨ ((cr a L g.1 < 0 ∧ cr a L g.2 < 0) ∧ cr a R g.1 < 0 ∧ cr a R g.2 < 0) := by
          rcases rev_side wk ad wn hrev with ⟨a1, a2, a3, a4⟩ | ⟨a1, a2, a3, a4⟩
          · exact .inl ⟨tL.side n1 a1 a3, tL.side n1 a2 a4⟩
          · exact .inr ⟨⟨tL.side2 n1 a1 a3, tL.side2 n1 a2 a4⟩, tR.side2 n2 a1 a3, tR.side2 n2 a2 a4⟩
        by_cases h0 : sg g a = 0
        · refine Tot.iteT (decide_eq_true h0) ?_
          refine Tot.of (r := false) rfl (Tot.iteF rfl ?_)
          refine Tot.of (nearer_t gk.1 ha) ?_
          have bn : bP (near g a) := nearC (P := bP) (near_or g a) gk.1.1 gk.1.2
          refine Tot.of (misses_t ha bL bR bn bn) ?_
          rcases side with h | ⟨h, h'⟩
          · have : 0 < cr a L (near g a) := nearC (P := fun x => 0 < cr a L x) (near_or g a) h.1 h.2
            unfold near at this
            rw [if_pos this]
            exact ⟨_, rfl, left h⟩
          · have q1 : ¬ 0 < cr a L (near g a) := by rcases near_or g a with q | q <;> rw [q] <;> omega
            have q2 : cr a R (near g a) < 0 := nearC (P := fun x => cr a R x < 0) (near_or g a) h'.1 h'.2
            unfold near at q1 q2
            rw [if_neg q1, if_pos q2]
            exact ⟨_, rfl, right h'⟩
        · refine Tot.iteF (decide_eq_false h0) ?_
          refine Tot.of (misses_t ha bL bR gk.1.1 gk.1.2) ?_
          rcases side with h | ⟨h, h'⟩
          · rw [if_pos h.2]
            exact Tot.iteT rfl ⟨_, rfl, left h⟩
          · rw [if_neg (show ¬ 0 < cr a L g.2 by omega), if_pos h'.1]
            exact Tot.iteT rfl ⟨_, rfl, right h'⟩
      · have hn : sg g a < 0 := by omega
        refine Tot.iteF (decide_eq_false (by omega)) ?_
        refine Tot.of (misses_t ha bL bR gk.1.1 gk.1.2) ?_
        by_cases c1 : 0 < cr a L g.2
        · rw [if_pos c1]
          exact Tot.iteT rfl ⟨_, rfl, left ⟨c.missL hm hw ad hn c1, c1⟩⟩
        · rw [if_neg c1]
          by_cases c2 : cr a R g.1 < 0
          · rw [if_pos c2]
            exact Tot.iteT rfl ⟨_, rfl, right ⟨c2, c.missR hm hw ad hn c2⟩⟩
          · rw [if_neg c2]
            refine Tot.iteF rfl (Tot.of (narrow_t ha bL bR gk.1) ⟨_, rfl, at_ + 1, hx2, by omega, .inr ⟨_, _, _, _, ?_, by omega, c.step hm hw g1 ad hn (by omega) (by omega)⟩⟩)
            split <;> split <;> rfl
  · rintro s (⟨at_, hx, hk, hs⟩ | h)
    · have hge : (gates.length : Int) ≤ (at_ : Int) := by
        rcases Int.lt_or_le (at_ : Int) (gates.length : Int) with h | h
        · rw [rng_cons h] at hx; cases hx
        · exact h
      rcases hs with ⟨rfl, hfa⟩ | ⟨L, i, R, j, rfl, hal, c⟩
      · refine Tot.of misses_none ⟨_, rfl, fun k g h1 h2 h3 => absurd h2 (by omega)⟩
      · have han : at_ = gates.length := by omega
        have k := c.k
        obtain ⟨m, hm⟩ : ∃ m, m + 1 = at_ := ⟨at_ - 1, by omega⟩
        have hw := List.getElem?_eq_getElem (l := gates) (i := m) (by omega)
        generalize gates[m] = w at hw
        obtain ⟨wn, wL, wR⟩ := c.fw hm hw
        have we : 0 ≤ sg w e := hen w (by rw [List.getLast?_eq_getElem?, show gates.length - 1 = m by omega]; exact hw)
        have bL : bP L := by
          obtain ⟨q, q1, q2⟩ := c.li
          rw [q2]
          exact (cor.g q (List.mem_of_getElem? q1)).1.1
        have bR : bP R := by
          obtain ⟨q, q1, q2⟩ := c.rj
          rw [q2]
          exact (cor.g q (List.mem_of_getElem? q1)).1.2
        refine Tot.of (misses_t ha bL bR he he) ?_
        by_cases c1 : 0 < cr a L e
        · rw [if_pos c1]
          exact ⟨_, rfl, i, rfl, .inr ⟨true, at_, c.bendL (by omega) (fun g' hg' => by rw [List.getElem?_eq_none (by omega)] at hg'; cases hg') fun _ => c1⟩⟩
        · rw [if_neg c1]
          by_cases c2 : cr a R e < 0
          · rw [if_pos c2]
            exact ⟨_, rfl, j, rfl, .inr ⟨false, at_, c.bendR (by omega) (fun g' hg' => by rw [List.getElem?_eq_none (by omega)] at hg'; cases hg') fun _ => c2⟩⟩
          · rw [if_neg c2]
            refine ⟨_, rfl, ?_⟩
            show Pass gates a f gates.length e
            rw [← han]
            exact c.inn hm hw (by omega) (by omega) (by omega)
    · exact h.elim
end
end W
set_option Elab.async false
set_option linter.all false
set_option maxRecDepth 100000
set_option maxHeartbeats 2000000
namespace W
open PySem L2 Mi
theorem sq_split (g : Gt) (x : Pt) : dt x g.2 g.1 g.2 + dt g.1 x g.1 g.2 = sq g.1 g.2 := by unfold sq dt; grind
theorem onG_ab {g : Gt} {x : Pt} (h : onG g x) : 0 ≤ dt x g.2 g.1 g.2 ∧ 0 ≤ dt g.1 x g.1 g.2 := by
  have h2 := h.2
  have s1 := sqn (g.1.1 - x.1)
  have s2 := sqn (g.1.2 - x.2)
  have s3 := sqn (g.2.1 - x.1)
  have s4 := sqn (g.2.2 - x.2)
  unfold dt at h2 ⊢
  constructor <;> grind
theorem onG_sg {g h : Gt} {x : Pt} (hx : onG g x) : sq g.1 g.2 * sg h x = dt x g.2 g.1 g.2 * sg h g.1 + dt g.1 x g.1 g.2 * sg h g.2 := by
  have h1 := hx.1
  unfold cr at h1
  unfold sg cr sq dt
  grind
theorem onG_dt {g h : Gt} {x y : Pt} (hx : onG g x) : sq g.1 g.2 * dt g.1 g.2 x y = dt x g.2 g.1 g.2 * dt g.1 g.2 g.1 y + dt g.1 x g.1 g.2 * dt g.1 g.2 g.2 y := by
  unfold sq dt
  grind
theorem line_dt (g : Gt) (p x y : Pt) : dt p x p y * sq g.1 g.2 = dt g.1 g.2 p x * dt g.1 g.2 p y + (sg g x - sg g p) * (sg g y - sg g p) := by
  unfold sg cr sq dt
  grind
theorem wavg {α β x y : Int} (ha : 0 ≤ α) (hb : 0 ≤ β) (hs : 0 < α + β) (hx : 0 < x) (hy : 0 < y) : 0 < α * x + β * y := by
  have q1 := Int.mul_nonneg ha (show 0 ≤ x by omega)
  have q2 := Int.mul_nonneg hb (show 0 ≤ y by omega)
  rcases Int.lt_or_le 0 α with c | c
  · have := Int.mul_pos c hx
    omega
  · have := Int.mul_pos (show 0 < β by omega) hy
    omega
theorem Adj.before {g g' : Gt} (h : Adj g g') (hg : GOk g) {x : Pt} (hx : onG g x) : sg g' x < 0 ∨ (sg g' x = 0 ∧ ¬ onG g' x) := by
  have hs := sq_ne hg
  obtain ⟨ha, hb⟩ := onG_ab hx
  have hsum := sq_split g x
  have e := onG_sg (h := g') hx
  rcases h with h | h
  · left
    have := wavg ha hb (by omega) (show 0 < -sg g' g.1 by have := h.c; omega) (show 0 < -sg g' g.2 by have := h.d; omega)
    have := pos_of_mul (k := sq g.1 g.2) (x := -sg g' x) hs (by grind)
    omega
  · right
    refine ⟨?_, fun ho => ?_⟩
    · rw [h.c, h.d, Int.mul_zero, Int.mul_zero, Int.add_zero, Int.mul_eq_zero] at e
      omega
    · have h2 := ho.2
      have d1 := onG_dt (h := g') (y := g'.1) hx
      have d2 := onG_dt (h := g') (y := g'.2) hx
      have l := line_dt g x g'.1 g'.2
      have hx0 : sg g x = 0 := hx.1
      rw [h.a, h.b, hx0, Int.sub_self, Int.mul_zero, Int.add_zero] at l
      have pos : 0 < dt g.1 g.2 x g'.1 * dt g.1 g.2 x g'.2 := by
        rcases h.s with ⟨s1, s2, s3, s4⟩ | ⟨s1, s2, s3, s4⟩
        · have p1 := pos_of_mul hs (by rw [d1]; exact wavg ha hb (by omega) s1 s3)
          have p2 := pos_of_mul hs (by rw [d2]; exact wavg ha hb (by omega) s2 s4)
          exact Int.mul_pos p1 p2
        · have p1 := pos_of_mul (x := -dt g.1 g.2 x g'.1) hs (by
            have := wavg ha hb (by omega) (show 0 < -dt g.1 g.2 g.1 g'.1 by omega) (show 0 < -dt g.1 g.2 g.2 g'.1 by omega)
            grind)
          have p2 := pos_of_mul (x := -dt g.1 g.2 x g'.2) hs (by
            have := wavg ha hb (by omega) (show 0 < -dt g.1 g.2 g.1 g'.2 by omega) (show 0 < -dt g.1 g.2 g.2 g'.2 by omega)
            grind)
          exact Int.mul_pos_of_neg_of_neg (by omega) (by omega)
      rw [← l] at pos
      have := Int.mul_nonneg (show 0 ≤ -dt x g'.1 x g'.2 by omega) (show 0 ≤ sq g.1 g.2 by omega)
      grind
theorem onG_end {g : Gt} {x : Pt} (h : x = g.1 ∨ x = g.2) : onG g x := by
  rcases h with rfl | rfl
  · exact ⟨cr_ba _ _, by unfold dt; simp⟩
  · exact ⟨cr_aa _ _, by unfold dt; simp⟩
theorem fe_or (ε : Bool) (g : Gt) : fe ε g = g.1 ∨ fe ε g = g.2 := by cases ε <;> simp [fe]
theorem fe_sg (ε : Bool) (g : Gt) : sg g (fe ε g) = 0 := by rcases fe_or ε g with h | h <;> rw [h]; exact sg_1 g; exact sg_2 g
section
variable {gates : List Gt} {a e P P' : Pt} {f at_ at' i i' : Nat} {ε ε' : Bool}
/-- from an end of a gate -/
theorem start_end (cor : Cor gates) {g : Gt} (hg : gates[i]? = some g) (hP : P = g.1 ∨ P = g.2) : Start gates P (i + 1) (i + 1) :=
  ⟨.inl rfl, fun g' h' => (cor.adj i g g' hg h').before (cor.g g (List.mem_of_getElem? hg)) (onG_end hP)⟩
/-- from the first point -/
theorem start_first (cor : Cor gates) (hs : ∀ g, gates[0]? = some g → sg g a ≤ 0) : ∃ f, Start gates a 0 f ∧ (f = 0 ∨ (f = 1 ∧ ∃ g, gates[0]? = some g ∧ onG g a)) := by
  cases h0 : gates[0]? with
  | none => exact ⟨0, ⟨.inl rfl, fun g hg => by rw [h0] at hg; cases hg⟩, .inl rfl⟩
  | some g =>
    by_cases c : onG g a
    · refine ⟨1, ⟨.inr ⟨rfl, g, h0, c⟩, fun g' h' => (cor.adj 0 g g' h0 h').before (cor.g g (List.mem_of_getElem? h0)) c⟩, .inr ⟨rfl, g, rfl, c⟩⟩
    · refine ⟨0, ⟨.inl rfl, fun g' h' => ?_⟩, .inl rfl⟩
      rw [h0] at h'
      cases h'
      have := hs g h0
      by_cases c2 : sg g a = 0
      · exact .inr ⟨c2, c⟩
      · exact .inl (by omega)
theorem Thru.cs {g h : Gt} {P N a : Pt} (t : Thru g P N) (hx : sg h N ≠ sg h P) (h1 : 0 < cs ε a P g.1) (h2 : 0 < cs ε a P g.2) : 0 < cs ε a P N := by
  have r : ∀ x, cr P x a = cr a P x := fun x => (cr_cyc a P x).symm
  cases ε
  · have h1 : 0 < -cr a P g.1 := h1
    have h2 : 0 < -cr a P g.2 := h2
    have := t.side2 (y := a) hx (by rw [r]; omega) (by rw [r]; omega)
    rw [r] at this
    show 0 < -cr a P N
    omega
  · have h1 : 0 < cr a P g.1 := h1
    have h2 : 0 < cr a P g.2 := h2
    have := t.side (y := a) hx (by rw [r]; omega) (by rw [r]; omega)
    rw [r] at this
    exact this
/-- what lies behind a gate's line is not before it -/
theorem Thru.after {w g : Gt} {x : Pt} (t : Thru g P x) (hP : sg w P = 0) (h1 : 0 ≤ sg w g.1) (h2 : 0 ≤ sg w g.2) : 0 ≤ sg w x := by
  have e := three_w w P g.1 g.2 x
  rw [hP, sg_gate, cr_swap P g.1 x] at e
  have n := t.n; have l := t.l; have r := t.r
  have q1 := Int.mul_nonneg h1 r
  have q2 := Int.mul_nonneg h2 (show 0 ≤ -cr P g.1 x by omega)
  exact nonneg_of_mul (k := -sg g P) (by omega) (by grind)
theorem ray_id (w : Gt) (a P N x : Pt) : (sg w P - sg w a) * cr P N x - (sg w N - sg w P) * cr a P x + (sg w x - sg w P) * cr a P N = 0 := by
  unfold sg cr
  grind
theorem Bend.ne (b : Bend gates e a f ε P i at_) : ∃ h : Gt, sg h P ≠ sg h a := by
  obtain ⟨g, e1, e2⟩ := b.g
  have := (b.ps i g b.fi b.ia e1).n
  refine ⟨g, ?_⟩
  rw [e2, fe_sg]
  omega
theorem Bend.turn (cor : Cor gates) (hen : ∀ g, gates.getLast? = some g → 0 ≤ sg g e) (b : Bend gates e a f ε P i at_) (b' : Bend gates e P (i + 1) ε' P' i' at') : 0 < cs ε a P P' := by
  obtain ⟨g', e1, e2⟩ := b'.g
  obtain ⟨h, hN⟩ := b'.ne
  have fi := b'.fi; have ia := b'.ia; have an := b'.an; have ia0 := b.ia; have an0 := b.an; have fi0 := b.fi
  by_cases c : at_ < at'
  · have hg := List.getElem?_eq_getElem (l := gates) (i := at_) (by omega)
    have t := b'.ps at_ _ (by omega) c hg
    exact t.cs hN (b.bl _ hg).1 (b.bl _ hg).2
  · by_cases he : ε' = ε
    · subst he
      rw [e2]
      exact b.md i' g' (by omega) (by omega) e1
    · exfalso
      obtain ⟨m, hm⟩ : ∃ m, m + 1 = at' := ⟨at' - 1, by omega⟩
      have hw := List.getElem?_eq_getElem (l := gates) (i := m) (by omega)
      generalize gates[m] = w at hw
      obtain ⟨x, x1, x2, x3⟩ : ∃ x, 0 < W.cs ε' P P' x ∧ 0 < W.cs ε a P x ∧ 0 ≤ sg w x := by
        by_cases ce : at' = gates.length
        · refine ⟨e, b'.en ce, b.en (by omega), hen w ?_⟩
          rw [List.getLast?_eq_getElem?, show gates.length - 1 = m by omega]
          exact hw
        · have hg := List.getElem?_eq_getElem (l := gates) (i := at') (by omega)
          generalize gates[at'] = g2 at hg
          have q := b'.bl g2 hg
          have ad := (cor.adj m w g2 hw (by rw [hm]; exact hg)).fwd
          refine ⟨fe ε g2, nearC (P := fun x => 0 < W.cs ε' P P' x) (fe_or ε g2) q.1 q.2, ?_, nearC (P := fun x => 0 ≤ sg w x) (fe_or ε g2) ad.1 ad.2⟩
          by_cases c2 : at' < at_
          · exact b.md at' g2 (by omega) c2 hg
          · have : at' = at_ := by omega
            subst this
            have q := b.bl g2 hg
            exact nearC (P := fun x => 0 < W.cs ε a P x) (fe_or ε g2) q.1 q.2
      have t1 := b.ps m w (by omega) (by omega) hw
      have t2 := b'.ps m w (by omega) (by omega) hw
      obtain ⟨h0, hP⟩ := b.ne
      have f1 := t1.fwd hP
      have f2 := t2.fwd hN
      have n2 := t2.n
      have tg := b.ps i' g' (by omega) (by omega) e1
      have id := ray_id w a P P' x
      have l1 := tg.l; have r1 := tg.r
      rw [cr_swap] at l1 r1
      cases ε
      · have ee : ε' = true := by cases ε' <;> simp_all
        subst ee
        have x1 : 0 < cr P P' x := x1
        have x2 : 0 < -cr a P x := x2
        have e2 : P' = g'.1 := e2
        rw [e2] at id x1 f2
        have q1 := Int.mul_pos f1 x1
        have q2 := Int.mul_pos f2 x2
        have q3 := Int.mul_nonneg (show 0 ≤ sg w x - sg w P by omega) (show 0 ≤ cr a P g'.1 by omega)
        grind
      · have ee : ε' = false := by cases ε' <;> simp_all
        subst ee
        have x1 : 0 < -cr P P' x := x1
        have x2 : 0 < cr a P x := x2
        have e2 : P' = g'.2 := e2
        rw [e2] at id x1 f2
        have q1 := Int.mul_pos f1 x1
        have q2 := Int.mul_pos f2 x2
        have q3 := Int.mul_nonneg (show 0 ≤ sg w x - sg w P by omega) (show 0 ≤ -cr a P g'.2 by omega)
        grind
theorem Bend.turnE (hen : ∀ g, gates.getLast? = some g → 0 ≤ sg g e) (b : Bend gates e a f ε P i at_) (ps : Pass gates P (i + 1) gates.length e) : 0 < cs ε a P e := by
  have ia0 := b.ia; have an0 := b.an
  by_cases c : at_ = gates.length
  · exact b.en c
  · have hg := List.getElem?_eq_getElem (l := gates) (i := at_) (by omega)
    have hl := List.getElem?_eq_getElem (l := gates) (i := gates.length - 1) (by omega)
    have tl := (ps (gates.length - 1) _ (by omega) (by omega) hl).n
    have h2 := hen _ (by rw [List.getLast?_eq_getElem?]; exact hl)
    exact (ps at_ _ (by omega) (by omega) hg).cs (h := gates[gates.length - 1]) (by omega) (b.bl _ hg).1 (b.bl _ hg).2
/-- who goes through a gate, to a point on its line, is on the gate -/
theorem Thru.on {g : Gt} (hg : GOk g) (t : Thru g a P) (h : sg g P = 0) : onG g P := by
  refine ⟨h, ?_⟩
  have n := t.n
  have l := t.l
  have r := t.r
  have e := Thru.id (g := g) (a := a) (x := P)
  have h' := h
  unfold sg cr at h'
  have e1 : -sg g a * (P.1 - g.1.1) = -cr a g.1 P * (g.2.1 - g.1.1) := by unfold sg cr; grind
  have e2 : -sg g a * (P.2 - g.1.2) = -cr a g.1 P * (g.2.2 - g.1.2) := by unfold sg cr; grind
  have e3 : -sg g a * (P.1 - g.2.1) = -(cr a g.2 P * (g.2.1 - g.1.1)) := by unfold sg cr; grind
  have e4 : -sg g a * (P.2 - g.2.2) = -(cr a g.2 P * (g.2.2 - g.1.2)) := by unfold sg cr; grind
  have key : (-sg g a) * ((-sg g a) * dt P g.1 P g.2) = -(-cr a g.1 P * cr a g.2 P) * sq g.1 g.2 := by
    have : (-sg g a) * ((-sg g a) * dt P g.1 P g.2) = (-sg g a * (P.1 - g.1.1)) * (-sg g a * (P.1 - g.2.1)) + (-sg g a * (P.2 - g.1.2)) * (-sg g a * (P.2 - g.2.2)) := by unfold dt; grind
    rw [this, e1, e2, e3, e4]
    unfold sq
    grind
  have q := Int.mul_nonneg (Int.mul_nonneg (show 0 ≤ -cr a g.1 P by omega) r) (Int.le_of_lt (sq_ne hg))
  have s1 := nonneg_of_mul (k := -sg g a) (x := -sg g a * -dt P g.1 P g.2) (by omega) (by grind)
  have := nonneg_of_mul (k := -sg g a) (x := -dt P g.1 P g.2) (by omega) s1
  omega
theorem Bend.turnN (cor : Cor gates) (b : Bend gates e a f ε P i at_) {g : Gt} (hg : gates[i + 1]? = some g) (h0 : sg g P = 0) (hno : ¬ onG g P) : 0 < cs ε a P (near g P) := by
  have ia0 := b.ia; have fi := b.fi
  by_cases c : at_ = i + 1
  · subst c
    have q := b.bl g hg
    exact nearC (P := fun x => 0 < W.cs ε a P x) (near_or g P) q.1 q.2
  · exact absurd ((b.ps (i + 1) g (by omega) (by omega) hg).on (cor.g g (List.mem_of_getElem? hg)) h0) hno
theorem near_dt {a u v : Pt} (hc : cr u v a = 0) (hk : 0 < dt a u a v) (hle : sq u a ≤ sq v a) (hne : 0 < sq u v) : 0 < dt a u u v := by
  have e1 : dt a u a v * dt a u a v = sq u a * sq v a := by unfold cr at hc; unfold dt sq; grind
  have e2 : dt a u u v = dt a u a v - sq u a := by unfold dt sq; grind
  have e3 : sq u v = sq u a + sq v a - 2 * dt a u a v := by unfold dt sq; grind
  generalize dt a u a v = k at *
  generalize sq u a = A at *
  generalize sq v a = B at *
  rw [e2]
  rcases Int.lt_or_le A k with c | c
  · omega
  · exfalso
    have h1 := Int.mul_nonneg (show 0 ≤ k by omega) (show 0 ≤ A - k by omega)
    have h2 : A * B ≤ A * k := by grind
    have h3 := Int.le_of_mul_le_mul_left h2 (by omega)
    omega
end
end W
set_option Elab.async false
set_option linter.all false
set_option maxRecDepth 100000
set_option maxHeartbeats 2000000
namespace W
open PySem L2 Mi
theorem ab_pos {i : Int} (h : 0 ≤ i) : ab i = i := by unfold ab; split <;> omega
theorem ab_np {i : Int} (h : i ≤ 0) : ab i = -i := by unfold ab; split <;> omega
theorem hold_num {C G nb na : Int} (hb : 0 ≤ nb) (ha : 0 ≤ na) (h : 0 < C * na - G * nb) : G * ab G * (C * C + nb * nb) ≤ C * ab C * (G * G + na * na) := by
  have c2 := sqn C
  have g2 := sqn G
  have b2 := sqn nb
  have a2 := sqn na
  rcases Int.lt_or_le C 0 with hC | hC
  · have q1 := Int.mul_nonneg (show 0 ≤ -C by omega) ha
    have hG : G < 0 := by
      rcases Int.lt_or_le G 0 with c | c
      · exact c
      · have := Int.mul_nonneg c hb
        grind
    rw [ab_np (show G ≤ 0 by omega), ab_np (show C ≤ 0 by omega)]
    -- |C| na ≤ |G| nb
    have hle : -C * na ≤ -G * nb := by grind
    have s1 := Int.mul_nonneg (show 0 ≤ -G * nb - -C * na by omega) (show 0 ≤ -G * nb + -C * na by
      have := Int.mul_nonneg (show 0 ≤ -G by omega) hb
      omega)
    grind
  · rcases Int.lt_or_le G 0 with hG | hG
    · rw [ab_np (show G ≤ 0 by omega), ab_pos hC]
      have s1 := Int.mul_nonneg g2 (show 0 ≤ C * C + nb * nb by omega)
      have s2 := Int.mul_nonneg c2 (show 0 ≤ G * G + na * na by omega)
      grind
    · rw [ab_pos hG, ab_pos hC]
      have q1 := Int.mul_nonneg hG hb
      have s1 := Int.mul_nonneg (show 0 ≤ C * na - G * nb by omega) (show 0 ≤ C * na + G * nb by
        have := Int.mul_nonneg hC ha
        omega)
      grind
theorem hold_num0 {C G na : Int} (hC : 0 < C) : G * ab G * (C * C + 0 * 0) ≤ C * ab C * (G * G + na * na) := by
  have c2 := sqn C
  have g2 := sqn G
  have a2 := sqn na
  rw [ab_pos (show 0 ≤ C by omega)]
  have q : G * ab G ≤ G * G := by
    rcases Int.lt_or_le G 0 with hG | hG
    · rw [ab_np (show G ≤ 0 by omega)]
      grind
    · rw [ab_pos hG]
      exact Int.le_refl _
  have s1 := Int.mul_nonneg (show 0 ≤ G * G - G * ab G by omega) c2
  have s2 := Int.mul_nonneg c2 a2
  grind
theorem hold_sc {C G A B D nb na : Int} (hD : 0 < D) (hA : A * D = C * C + nb * nb) (hB : B * D = G * G + na * na) (h : G * ab G * (C * C + nb * nb) ≤ C * ab C * (G * G + na * na)) : G * ab G * A ≤ C * ab C * B := by
  rw [← hA, ← hB] at h
  refine (scale_le hD).mp ?_
  grind
/-- what is known of a bend -/
def Info (a x : Pt) (g : Gt) (y : Pt) : Prop := (∃ ε, x = fe ε g ∧ sg g a < 0 ∧ 0 ≤ sg g y ∧ 0 < cs ε a x y) ∨ ((x = g.1 ∨ x = g.2) ∧ sg g a = 0 ∧ 0 < dt a x x (inner x g))
theorem GOk.ne {g : Gt} (h : GOk g) : g.1 ≠ g.2 := by
  intro e
  have := sq_ne h
  rw [e] at this
  unfold sq at this
  simp at this
theorem inner_1 (g : Gt) : inner g.1 g = g.2 := by unfold inner; rw [if_pos rfl]
theorem inner_2 {g : Gt} (h : GOk g) : inner g.2 g = g.1 := by unfold inner; rw [if_neg h.ne]
theorem Info.hold {a x y : Pt} {g : Gt} (hg : GOk g) (h : Info a x g y) : holdP a x y g = true := by
  have hs := sq_ne hg
  refine decide_eq_true ?_
  rcases h with ⟨ε, hx, h1, h2, h3⟩ | ⟨hx, h1, h2⟩
  · cases ε
    · have hx : x = g.2 := hx
      subst hx
      rw [inner_2 hg]
      have h3 : 0 < -cr a g.2 y := h3
      refine hold_sc (D := sq g.1 g.2) (nb := -sg g a) (na := sg g y) hs (by unfold sg cr sq dt; grind) (by unfold sg cr sq dt; grind) (hold_num (by omega) h2 ?_)
      have e : -cr a g.2 y * sq g.1 g.2 = dt a g.2 g.2 g.1 * sg g y - dt g.2 y g.2 g.1 * -sg g a := by unfold sg cr sq dt; grind
      rw [← e]
      exact Int.mul_pos h3 hs
    · have hx : x = g.1 := hx
      subst hx
      rw [inner_1]
      have h3 : 0 < cr a g.1 y := h3
      refine hold_sc (D := sq g.1 g.2) (nb := -sg g a) (na := sg g y) hs (by unfold sg cr sq dt; grind) (by unfold sg cr sq dt; grind) (hold_num (by omega) h2 ?_)
      have e : cr a g.1 y * sq g.1 g.2 = dt a g.1 g.1 g.2 * sg g y - dt g.1 y g.1 g.2 * -sg g a := by unfold sg cr sq dt; grind
      rw [← e]
      exact Int.mul_pos h3 hs
  · rcases hx with rfl | rfl
    · rw [inner_1] at h2 ⊢
      refine hold_sc (D := sq g.1 g.2) (nb := 0) (na := sg g y) hs ?_ (by unfold sg cr sq dt; grind) (hold_num0 h2)
      unfold sg cr at h1
      unfold sq dt
      grind
    · rw [inner_2 hg] at h2 ⊢
      refine hold_sc (D := sq g.1 g.2) (nb := 0) (na := sg g y) hs ?_ (by unfold sg cr sq dt; grind) (hold_num0 h2)
      unfold sg cr at h1
      unfold sq dt
      grind
def Ray (x y y' : Pt) : Prop := ∃ μ : Rat, 0 < μ ∧ (y'.1 : Rat) - x.1 = μ * ((y.1 : Rat) - x.1) ∧ (y'.2 : Rat) - x.2 = μ * ((y.2 : Rat) - x.2)
theorem Ray.refl (x y : Pt) : Ray x y y := ⟨1, by decide, by grind, by grind⟩
theorem Ray.trans {x y z w : Pt} (h1 : Ray x y z) (h2 : Ray x z w) : Ray x y w := by
  obtain ⟨μ, m, e1, e2⟩ := h1
  obtain ⟨ν, n, f1, f2⟩ := h2
  exact ⟨ν * μ, Rat.mul_pos n m, by rw [f1, e1]; grind, by rw [f2, e2]; grind⟩
theorem sgnR {p q : Int} {μ : Rat} (hm : 0 < μ) (h : (p : Rat) = μ * (q : Rat)) : (0 < q → 0 < p) ∧ (0 ≤ q → 0 ≤ p) ∧ (q < 0 → p < 0) ∧ (q = 0 ↔ p = 0) ∧ (0 < q ↔ 0 < p) := by
  have a1 : 0 < q → 0 < p := fun c => by
    have : (0 : Rat) < (q : Rat) := by exact_mod_cast c
    have := Rat.mul_pos hm this
    rw [← h] at this
    exact_mod_cast this
  have a2 : q < 0 → p < 0 := fun c => by
    have : (q : Rat) < 0 := by exact_mod_cast c
    have := Rat.mul_pos hm (show 0 < -(q : Rat) by grind)
    have h2 : (p : Rat) < 0 := by grind
    exact_mod_cast h2
  have a3 : q = 0 → p = 0 := fun c => by
    rw [c] at h
    have h2 : (p : Rat) = 0 := by rw [h]; simp
    exact_mod_cast h2
  refine ⟨a1, fun c => ?_, a2, ⟨a3, fun c => ?_⟩, a1, fun c => ?_⟩
  · by_cases z : q = 0
    · rw [a3 z]; exact Int.le_refl _
    · exact Int.le_of_lt (a1 (by omega))
  · rcases Int.lt_trichotomy q 0 with z | z | z
    · have := a2 z; omega
    · exact z
    · have := a1 z; omega
  · rcases Int.lt_trichotomy q 0 with z | z | z
    · have := a2 z; omega
    · have := a3 z; omega
    · exact z
theorem ray_sg {x y y' : Pt} {μ : Rat} (e1 : (y'.1 : Rat) - x.1 = μ * ((y.1 : Rat) - x.1)) (e2 : (y'.2 : Rat) - x.2 = μ * ((y.2 : Rat) - x.2)) {g : Gt} (hx : sg g x = 0) : ((sg g y' : Int) : Rat) = μ * ((sg g y : Int) : Rat) := by
  have hx2 : ((sg g x : Int) : Rat) = 0 := by rw [hx]; rfl
  unfold W.sg cr at hx2 ⊢
  push_cast at hx2 ⊢
  grind
theorem Info.next {a x y y' : Pt} {g : Gt} (h : Info a x g y) (r : Ray x y y') : Info a x g y' := by
  rcases h with ⟨ε, hx, h1, h2, h3⟩ | h
  · obtain ⟨μ, m, e1, e2⟩ := r
    refine .inl ⟨ε, hx, h1, (sgnR m (ray_sg e1 e2 (by rw [hx]; exact fe_sg ε g))).2.1 h2, (sgnR m ?_).1 h3⟩
    cases ε
    · show ((-cr a x y' : Int) : Rat) = μ * ((-cr a x y : Int) : Rat)
      unfold cr
      push_cast
      grind
    · show ((cr a x y' : Int) : Rat) = μ * ((cr a x y : Int) : Rat)
      unfold cr
      push_cast
      grind
  · exact .inr h
theorem Info.prev {a a' x y : Pt} {g : Gt} (h : Info a x g y) (r : Ray x a a') : Info a' x g y := by
  obtain ⟨μ, m, e1, e2⟩ := r
  rcases h with ⟨ε, hx, h1, h2, h3⟩ | ⟨hx, h1, h2⟩
  · refine .inl ⟨ε, hx, (sgnR m (ray_sg e1 e2 (by rw [hx]; exact fe_sg ε g))).2.2.1 h1, h2, (sgnR m ?_).1 h3⟩
    cases ε
    · show ((-cr a' x y : Int) : Rat) = μ * ((-cr a x y : Int) : Rat)
      unfold cr
      push_cast
      grind
    · show ((cr a' x y : Int) : Rat) = μ * ((cr a x y : Int) : Rat)
      unfold cr
      push_cast
      grind
  · have h0 : W.sg g x = 0 := by
      rcases hx with h | h <;> rw [h]
      · exact sg_1 g
      · exact sg_2 g
    refine .inr ⟨hx, (sgnR m (ray_sg e1 e2 h0)).2.2.2.1.mp h1, (sgnR m ?_).1 h2⟩
    unfold dt
    push_cast
    grind
theorem strP_iff {a b c : Pt} : strP a b c = true ↔ cr a b c = 0 ∧ 0 < dt a b b c := by unfold strP; rw [Bool.and_eq_true, decide_eq_true_eq, decide_eq_true_eq]
theorem strP_next {a x y y' : Pt} (r : Ray x y y') : strP a x y' = strP a x y := by
  obtain ⟨μ, m, e1, e2⟩ := r
  have q1 := (sgnR (p := cr a x y') (q := cr a x y) m (by unfold cr; push_cast; grind)).2.2.2.1
  have q2 := (sgnR (p := dt a x x y') (q := dt a x x y) m (by unfold dt; push_cast; grind)).2.2.2.2
  unfold strP
  rw [decide_eq_decide.mpr q1, decide_eq_decide.mpr q2]
/-- straight on: the middle point's place -/
theorem strP_mid {a b c : Pt} (h : strP a b c = true) : ∃ τ : Rat, 0 < τ ∧ τ < 1 ∧ (b.1 : Rat) = ln a.1 c.1 τ ∧ (b.2 : Rat) = ln a.2 c.2 τ := by
  obtain ⟨h1, h2⟩ := strP_iff.mp h
  have hs : 0 < sq b c := by
    have s1 := sqn (b.1 - c.1)
    have s2 := sqn (b.2 - c.2)
    rcases Int.lt_or_le 0 (sq b c) with q | q
    · exact q
    · exfalso
      unfold sq at q
      have e1 : (b.1 - c.1) * (b.1 - c.1) = 0 := by omega
      have e2 : (b.2 - c.2) * (b.2 - c.2) = 0 := by omega
      rw [Int.mul_eq_zero] at e1 e2
      have f1 : c.1 - b.1 = 0 := by omega
      have f2 : c.2 - b.2 = 0 := by omega
      unfold dt at h2
      rw [f1, f2, Int.mul_zero, Int.mul_zero] at h2
      omega
  have e1 : sq b c * (b.1 - a.1) = dt a b b c * (c.1 - b.1) := by unfold cr at h1; unfold sq dt; grind
  have e2 : sq b c * (b.2 - a.2) = dt a b b c * (c.2 - b.2) := by unfold cr at h1; unfold sq dt; grind
  generalize sq b c = S at hs e1 e2
  generalize dt a b b c = T at h2 e1 e2
  have r1 : (S : Rat) * ((b.1 : Rat) - a.1) = T * ((c.1 : Rat) - b.1) := by exact_mod_cast e1
  have r2 : (S : Rat) * ((b.2 : Rat) - a.2) = T * ((c.2 : Rat) - b.2) := by exact_mod_cast e2
  have pS : (0 : Rat) < (S : Rat) := by exact_mod_cast hs
  have pT : (0 : Rat) < (T : Rat) := by exact_mod_cast h2
  have pST : (0 : Rat) < (S : Rat) + T := by grind
  have q : (T : Rat) / (S + T) * (S + T) = T := by grind
  have q1 : (S : Rat) / (S + T) * (S + T) = S := by grind
  have dp : ∀ x y : Rat, 0 < x → 0 < y → 0 < x / y := fun x y hx hy => by rw [Rat.div_def]; exact Rat.mul_pos hx (Rat.inv_pos.mpr hy)
  refine ⟨(T : Rat) / (S + T), dp _ _ pT pST, ?_, ?_, ?_⟩
  · have : 0 < (S : Rat) / (S + T) := dp _ _ pS pST
    have : (T : Rat) / (S + T) + S / (S + T) = 1 := by grind
    grind
  · unfold ln
    grind
  · unfold ln
    grind
theorem strP_ray {a b c : Pt} (h : strP a b c = true) : Ray b c c ∧ Ray c b a ∧ Ray a b c := by
  obtain ⟨τ, t0, t1, e1, e2⟩ := strP_mid h
  unfold ln at e1 e2
  have p1 : 0 < 1 - τ := by grind
  have i1 : (1 - τ)⁻¹ * (1 - τ) = 1 := by grind
  have i2 : τ⁻¹ * τ = 1 := by grind
  have pi : 0 < (1 - τ)⁻¹ := Rat.inv_pos.mpr p1
  have pj : 0 < τ⁻¹ := Rat.inv_pos.mpr t0
  refine ⟨.refl _ _, ⟨(1 - τ)⁻¹, pi, ?_, ?_⟩, ⟨τ⁻¹, pj, ?_, ?_⟩⟩ <;> grind
inductive W3 (A N : Pt) : Rat → List Gt → Rat → Prop
  | nil {n m : Rat} : n ≤ m → W3 A N n [] m
  | cons {n m t : Rat} {g : Gt} {gs : List Gt} : n ≤ t → onAt A N g t → W3 A N t gs m → W3 A N n (g :: gs) m
theorem W3.le {A N : Pt} : ∀ {n m : Rat} {gs : List Gt}, W3 A N n gs m → n ≤ m
  | _, _, _, .nil h => h
  | _, _, _, .cons h _ t => Rat.le_trans h t.le
theorem W3.weak {A N : Pt} {n n' m : Rat} {gs : List Gt} (h : n' ≤ n) : W3 A N n gs m → W3 A N n' gs m
  | .nil h1 => .nil (Rat.le_trans h h1)
  | .cons h1 h2 t => .cons (Rat.le_trans h h1) h2 t
theorem W3.app {A N : Pt} {m l : Rat} {ys : List Gt} (h2 : W3 A N m ys l) : ∀ {n : Rat} {xs : List Gt}, W3 A N n xs m → W3 A N n (xs ++ ys) l
  | _, _, .nil h => h2.weak h
  | _, _, .cons h h1 t => .cons h h1 (W3.app h2 t)
theorem W3.map {A N A' N' : Pt} {p q : Rat} (hq : 0 ≤ q) (hon : ∀ g t, onAt A N g t → onAt A' N' g (p + q * t)) : ∀ {n m : Rat} {gs : List Gt}, W3 A N n gs m → W3 A' N' (p + q * n) gs (p + q * m)
  | _, _, _, .nil h => .nil (by have := Rat.mul_le_mul_of_nonneg_left h hq; grind)
  | _, _, _, .cons h h1 t => .cons (by have := Rat.mul_le_mul_of_nonneg_left h hq; grind) (hon _ _ h1) (W3.map hq hon t)
theorem W3.join {a b c : Pt} {g : Gt} {xs ys : List Gt} (h : strP a b c = true) (hg : b = g.1 ∨ b = g.2) (h1 : W3 a b 0 xs 1) (h2 : W3 b c 0 ys 1) : W3 a c 0 (xs ++ g :: ys) 1 := by
  obtain ⟨τ, t0, t1, e1, e2⟩ := strP_mid h
  have l1 : ∀ t, ln a.1 c.1 (0 + τ * t) = ln a.1 b.1 t := fun t => by unfold ln at e1 ⊢; grind
  have l2 : ∀ t, ln a.2 c.2 (0 + τ * t) = ln a.2 b.2 t := fun t => by unfold ln at e2 ⊢; grind
  have l3 : ∀ t, ln a.1 c.1 (τ + (1 - τ) * t) = ln b.1 c.1 t := fun t => by unfold ln at e1 ⊢; grind
  have l4 : ∀ t, ln a.2 c.2 (τ + (1 - τ) * t) = ln b.2 c.2 t := fun t => by unfold ln at e2 ⊢; grind
  have m1 := h1.map (A' := a) (N' := c) (p := 0) (q := τ) (Rat.le_of_lt t0) fun g t ht => by unfold onAt inR at ht ⊢; rw [l1, l2]; exact ht
  have m2 := h2.map (A' := a) (N' := c) (p := τ) (q := 1 - τ) (by grind) fun g t ht => by unfold onAt inR at ht ⊢; rw [l3, l4]; exact ht
  have z1 : (0 : Rat) + τ * 0 = 0 := by grind
  have z2 : (0 : Rat) + τ * 1 = τ := by grind
  have z3 : τ + (1 - τ) * 0 = τ := by grind
  have z4 : τ + (1 - τ) * 1 = 1 := by grind
  rw [z1, z2] at m1
  rw [z3, z4] at m2
  refine W3.app (.cons Rat.le_refl ?_ m2) m1
  unfold onAt
  rw [inR_prod, inR_prod, ← e1, ← e2]
  have nn : (0 : Rat) ≤ 0 := Rat.le_refl
  rcases hg with rfl | rfl
  · constructor <;> (rw [Rat.sub_self, Rat.zero_mul]; exact nn)
  · constructor <;> (rw [Rat.sub_self, Rat.mul_zero]; exact nn)
theorem W3.inn {A N : Pt} (hA : bP A) (hN : bP N) (hn : A ≠ N) {k : Int} : ∀ {gs : List Gt} {n : Rat} {f : Int × Int}, (∀ g ∈ gs, GOk g) → Fr f → fr f ≤ n → W3 A N n gs 1 → ∃ r, W.inn A N k gs f = some r ∧ r.length = gs.length
  | [], _, _, _, _, _, _ => ⟨[], rfl, rfl⟩
  | g :: gs, n, f, hg, hf, hle, .cons (t := t) h1 h2 h3 => by
    have m := met_ok (top := f.1) (den := f.2) hA hN hn (hg g List.mem_cons_self) hf
    change MetOk (onAt A N g) (fr f) (met A N g f) at m
    have ht := h3.le
    cases hm : met A N g f with
    | none =>
      rw [hm] at m
      exact absurd h2 (m t (Rat.le_trans hle h1) ht)
    | some f' =>
      rw [hm] at m
      obtain ⟨r, e, el⟩ := W3.inn hA hN hn (k := k) (gs := gs) (fun x hx => hg x (List.mem_cons_of_mem _ hx)) m.1 (m.2.2.2 t (Rat.le_trans hle h1) ht h2) h3
      exact ⟨posn k f' :: r, by rw [W.inn, hm, Option.bind_some, e]; rfl, by rw [List.length_cons, List.length_cons, el]⟩
def tm (g : Gt) (a x : Pt) : Rat := ((-sg g a : Int) : Rat) / ((sg g x - sg g a : Int) : Rat)
theorem tm_on {g : Gt} {a x : Pt} (t : Thru g a x) (hd : 0 < sg g x - sg g a) : onAt a x g (tm g a x) := by
  have e := Thru.id (g := g) (a := a) (x := x)
  have l := t.l
  have r := t.r
  have i1 : (sg g x - sg g a) * (a.1 - g.1.1) + -sg g a * (x.1 - a.1) = -cr a g.1 x * (g.2.1 - g.1.1) := by unfold sg cr; grind
  have i2 : (sg g x - sg g a) * (a.2 - g.1.2) + -sg g a * (x.2 - a.2) = -cr a g.1 x * (g.2.2 - g.1.2) := by unfold sg cr; grind
  unfold tm
  generalize hD : sg g x - sg g a = D at *
  generalize hn : -sg g a = nn at *
  generalize cr a g.2 x = u at *
  generalize hv : -cr a g.1 x = v at *
  have huv : D = u + v := by omega
  have pD : (0 : Rat) < (D : Rat) := by exact_mod_cast hd
  have pu : (0 : Rat) ≤ (u : Rat) := by exact_mod_cast r
  have pv : (0 : Rat) ≤ (v : Rat) := by exact_mod_cast (show 0 ≤ v by omega)
  have pq : (D : Rat) = u + v := by exact_mod_cast huv
  have j1 : (D : Rat) * ((a.1 : Rat) - g.1.1) + nn * ((x.1 : Rat) - a.1) = v * ((g.2.1 : Rat) - g.1.1) := by exact_mod_cast i1
  have j2 : (D : Rat) * ((a.2 : Rat) - g.1.2) + nn * ((x.2 : Rat) - a.2) = v * ((g.2.2 : Rat) - g.1.2) := by exact_mod_cast i2
  have hT : (nn : Rat) / D * D = nn := by grind
  generalize (nn : Rat) / D = T at hT ⊢
  have key : ∀ (a x g h : Rat), (D : Rat) * (a - g) + nn * (x - a) = v * (h - g) → (a + T * (x - a) - g) * (a + T * (x - a) - h) ≤ 0 := fun a x g h j => by
    have k1 : (D : Rat) * (a + T * (x - a) - g) = v * (h - g) := by grind
    have k2 : (D : Rat) * (a + T * (x - a) - h) = -(u * (h - g)) := by grind
    have k3 : ((D : Rat) * D) * ((a + T * (x - a) - g) * (a + T * (x - a) - h)) = (D * (a + T * (x - a) - g)) * (D * (a + T * (x - a) - h)) := by grind
    rw [← nonpos_scale (Rat.mul_pos pD pD), k3, k1, k2]
    have s : 0 ≤ (h - g) * (h - g) := by
      by_cases z : h - g = 0
      · rw [z, Rat.mul_zero]; exact Rat.le_refl
      · exact Rat.le_of_lt (sq_pos z)
    have := Rat.mul_nonneg (Rat.mul_nonneg pu pv) s
    grind
  unfold onAt
  rw [inR_prod, inR_prod]
  exact ⟨key _ _ _ _ j1, key _ _ _ _ j2⟩
theorem tm_div {n d n' d' : Int} (hd : 0 < d) (hd' : 0 < d') : ((n : Int) : Rat) / (d : Rat) ≤ (n' : Rat) / (d' : Rat) ↔ n * d' ≤ n' * d := fr_le (f := (n, d)) (g := (n', d')) hd hd'
theorem tm_le1 {g : Gt} {a x : Pt} (hd : 0 < sg g x - sg g a) : tm g a x ≤ 1 ↔ 0 ≤ sg g x := by
  rw [← fr1]
  unfold tm
  show fr (-sg g a, sg g x - sg g a) ≤ fr (1, 1) ↔ _
  rw [fr_le hd (by decide)]
  dsimp only
  omega
theorem tm_ge0 {g : Gt} {a x : Pt} (hd : 0 < sg g x - sg g a) (hn : sg g a < 0) : 0 ≤ tm g a x := by
  rw [← fr0]
  unfold tm
  show fr (0, 1) ≤ fr (-sg g a, sg g x - sg g a)
  rw [fr_le (by decide) hd]
  dsimp only
  omega
theorem tm_step {w g : Gt} {a x : Pt} (tw : Thru w a x) (tg : Thru g a x) (h1 : 0 ≤ sg w g.1) (h2 : 0 ≤ sg w g.2) (d1 : 0 < sg w x - sg w a) (d2 : 0 < sg g x - sg g a) : tm w a x ≤ tm g a x := by
  unfold tm
  rw [tm_div d1 d2]
  have e := Thru.id (g := g) (a := a) (x := x)
  have w3 := three_w w a g.1 g.2 x
  rw [sg_gate, cr_swap a g.1 x] at w3
  have l := tg.l; have r := tg.r
  have q1 := Int.mul_nonneg h1 r
  have q2 := Int.mul_nonneg h2 (show 0 ≤ -cr a g.1 x by omega)
  rw [e]
  grind
section
variable {gates : List Gt}
theorem pass_w (cor : Cor gates) {a x h0 : _} {f b last : Nat} (hp : Pass gates a f b x) (hx : sg h0 x ≠ sg h0 a) (hlb : last ≤ b) (hbl : b ≤ gates.length) (hlast : ∀ (k : Nat) g, k + 1 = last → f ≤ k → gates[k]? = some g → 0 ≤ sg g x) : ∀ m k, k + m = last → f ≤ k → (∀ g, k < last → gates[k]? = some g → tm g a x ≤ 1) ∧ ∀ n, n ≤ 1 → (∀ g, k < last → gates[k]? = some g → n ≤ tm g a x) → W3 a x n (sl2 gates k last) 1
  | 0, k, hk, hf => ⟨fun g h _ => absurd h (by omega), fun n hn _ => by rw [sl2_nil (by omega)]; exact .nil hn⟩
  | m + 1, k, hk, hf => by
    obtain ⟨ih1, ih2⟩ := pass_w cor hp hx hlb hbl hlast m (k + 1) (by omega) (by omega)
    have hg := List.getElem?_eq_getElem (l := gates) (i := k) (by omega)
    generalize gates[k] = g at hg
    have t := hp k g hf (by omega) hg
    have d := t.fwd hx
    have le1 : tm g a x ≤ 1 := by
      by_cases c : k + 1 = last
      · exact (tm_le1 d).mpr (hlast k g c hf hg)
      · have hg' := List.getElem?_eq_getElem (l := gates) (i := k + 1) (by omega)
        generalize gates[k + 1] = g' at hg'
        have t' := hp (k + 1) g' (by omega) (by omega) hg'
        have ad := (cor.adj k g g' hg hg').fwd
        exact Rat.le_trans (tm_step t t' ad.1 ad.2 d (t'.fwd hx)) (ih1 g' (by omega) hg')
    refine ⟨fun g2 _ h2 => by rw [hg] at h2; cases h2; exact le1, fun n hn hh => ?_⟩
    rw [sl2_cons (by omega) hg]
    refine .cons (hh g (by omega) hg) (tm_on t d) (ih2 _ le1 fun g' hl hg' => ?_)
    have t' := hp (k + 1) g' (by omega) (by omega) hg'
    have ad := (cor.adj k g g' hg hg').fwd
    exact tm_step t t' ad.1 ad.2 d (t'.fwd hx)
end
end W
set_option Elab.async false
set_option linter.all false
set_option maxRecDepth 100000
set_option maxHeartbeats 2000000
namespace W
open PySem L2 Mi
def goS : Pt → List Pt → List Int → List Pt × List Int
  | _, [], _ => ([], [])
  | _, [x], _ => ([x], [])
  | A, x :: y :: r, [] => (x :: y :: r, [])
  | A, x :: y :: r, b :: bs => if strP A x y = true then goS A (y :: r) bs else (x :: (goS x (y :: r) bs).1, b :: (goS x (y :: r) bs).2)
/-- a string from A on, from gate c on -/
def RawG (gates : List Gt) (e : Pt) (fl : Bool) : Pt → Nat → List Pt → List Int → Prop
  | _, _, [], _ => False
  | A, c, [q], bs => W3 A q 0 (sl2 gates c gates.length) 1 ∧ A ≠ q ∧ q = e ∧ (fl = true → bs = [])
  | A, c, q :: q' :: r, b :: bs => ∃ (bN : Nat) (g : Gt), b = (bN : Int) ∧ gates[bN]? = some g ∧ (q = g.1 ∨ q = g.2) ∧ c ≤ bN ∧ W3 A q 0 (sl2 gates c bN) 1 ∧ A ≠ q ∧ Info A q g q' ∧ (fl = true → strP A q q' = false) ∧ RawG gates e fl q (bN + 1) (q' :: r) bs
  | _, _, _ :: _ :: _, [] => False
section
variable {gates : List Gt} {e : Pt}
theorem sl2_split {b last : Nat} {g : Gt} (hg : gates[b]? = some g) (hl : b < last) : ∀ m c, c + m = b → sl2 gates c last = sl2 gates c b ++ g :: sl2 gates (b + 1) last
  | 0, c, h => by
    have : c = b := by omega
    subst this
    rw [sl2_nil (Nat.le_refl _), sl2_cons hl hg]
    rfl
  | m + 1, c, h => by
    have hb := (List.getElem?_eq_some_iff.mp hg).1
    have hc := List.getElem?_eq_getElem (l := gates) (i := c) (by omega)
    rw [sl2_cons (last := last) (by omega) hc, sl2_cons (last := b) (by omega) hc, sl2_split hg hl m (c + 1) (by omega)]
    rfl
theorem str_ne {A x y : Pt} (h : strP A x y = true) : A ≠ y := by
  intro c
  subst c
  have := (strP_iff.mp h).2
  have s1 := sqn (x.1 - A.1)
  have s2 := sqn (x.2 - A.2)
  unfold dt at this
  have : (x.1 - A.1) * (A.1 - x.1) + (x.2 - A.2) * (A.2 - x.2) = -((x.1 - A.1) * (x.1 - A.1)) - (x.2 - A.2) * (x.2 - A.2) := by grind
  omega
theorem go_head : ∀ (r : List Pt) (x y : Pt) (bs : List Int), ∃ y' t, (goS x (y :: r) bs).1 = y' :: t ∧ Ray x y y'
  | [], x, y, bs => ⟨y, [], by cases bs <;> rfl, .refl _ _⟩
  | z :: r, x, y, [] => ⟨y, z :: r, rfl, .refl _ _⟩
  | z :: r, x, y, b :: bs => by
    rw [goS]
    by_cases c : strP x y z = true
    · rw [if_pos c]
      obtain ⟨y', t, h1, h2⟩ := go_head r x z bs
      exact ⟨y', t, h1, (strP_ray c).2.2.trans h2⟩
    · rw [if_neg c]
      exact ⟨y, _, rfl, .refl _ _⟩
theorem raw_merge {A x y : Pt} {c b : Nat} {g : Gt} {r : List Pt} {bs : List Int} (hs : strP A x y = true) (hg : gates[b]? = some g) (hx : x = g.1 ∨ x = g.2) (hc : c ≤ b) (hw : W3 A x 0 (sl2 gates c b) 1) (h : RawG gates e false x (b + 1) (y :: r) bs) : RawG gates e false A c (y :: r) bs := by
  have hb := (List.getElem?_eq_some_iff.mp hg).1
  obtain ⟨r1, r2, r3⟩ := strP_ray hs
  cases r with
  | nil =>
    obtain ⟨h1, h2, h3, h4⟩ := h
    refine ⟨?_, str_ne hs, h3, fun h => by cases h⟩
    rw [sl2_split hg hb (b - c) c (by omega)]
    exact W3.join hs hx hw h1
  | cons z r =>
    cases bs with
    | nil => exact h.elim
    | cons b' bs =>
      obtain ⟨bN, g', e1, e2, e3, e4, e5, e6, e7, e8, e9⟩ := h
      refine ⟨bN, g', e1, e2, e3, by omega, ?_, str_ne hs, e7.prev r2, fun h => (by cases h), e9⟩
      rw [sl2_split hg (show b < bN by omega) (b - c) c (by omega)]
      exact W3.join hs hx hw e5
theorem go_good : ∀ (ps : List Pt) (bs : List Int) (A : Pt) (c : Nat), RawG gates e false A c ps bs → RawG gates e true A c (goS A ps bs).1 (goS A ps bs).2
  | [], _, _, _, h => h.elim
  | [x], bs, A, c, h => by
    obtain ⟨h1, h2, h3, _⟩ := h
    cases bs <;> exact ⟨h1, h2, h3, fun _ => rfl⟩
  | x :: y :: r, [], _, _, h => h.elim
  | x :: y :: r, b :: bs, A, c, h => by
    obtain ⟨bN, g, e1, e2, e3, e4, e5, e6, e7, e8, e9⟩ := h
    rw [goS]
    by_cases hs : strP A x y = true
    · rw [if_pos hs]
      exact go_good (y :: r) bs A c (raw_merge hs e2 e3 e4 e5 e9)
    · rw [if_neg hs]
      have ih := go_good (y :: r) bs x (bN + 1) e9
      obtain ⟨y', t, h1, h2⟩ := go_head r x y bs
      rw [h1] at ih ⊢
      refine ⟨bN, g, e1, e2, e3, e4, e5, e6, e7.next h2, fun _ => ?_, ih⟩
      rw [strP_next h2]
      simpa using hs
theorem good_len : ∀ (ks : List Pt) (ls : List Int) (A : Pt) (c : Nat), RawG gates e true A c ks ls → ls.length + 1 = ks.length ∧ (c ≤ gates.length → c + ls.length ≤ gates.length) ∧ (A :: ks).getLast? = some e
  | [], _, _, _, h => h.elim
  | [q], ls, A, c, h => by
    obtain ⟨h1, h2, h3, h4⟩ := h
    rw [h4 rfl, h3]
    exact ⟨rfl, fun h => h, rfl⟩
  | q :: q' :: r, [], _, _, h => h.elim
  | q :: q' :: r, b :: ls, A, c, h => by
    obtain ⟨bN, g, e1, e2, e3, e4, e5, e6, e7, e8, e9⟩ := h
    obtain ⟨h1, h2, h3⟩ := good_len (q' :: r) ls q (bN + 1) e9
    have hb := (List.getElem?_eq_some_iff.mp e2).1
    have h2 := h2 (by omega)
    refine ⟨by simp only [List.length_cons] at h1 ⊢; omega, fun _ => by rw [List.length_cons]; omega, ?_⟩
    rw [List.getLast?_cons_cons]
    exact h3
theorem good_b (cor : Cor gates) (he : bP e) : ∀ (ks : List Pt) (ls : List Int) (A : Pt) (c : Nat), RawG gates e true A c ks ls → (∀ q ∈ ks, bP q) ∧ (∀ b ∈ ls, (c : Int) ≤ b ∧ b < gates.length) ∧ ls.Pairwise (· ≤ ·)
  | [], _, _, _, h => h.elim
  | [q], ls, A, c, h => by
    obtain ⟨h1, h2, h3, h4⟩ := h
    rw [h4 rfl, h3]
    exact ⟨fun q hq => by rw [List.mem_singleton.mp hq]; exact he, fun b hb => (by cases hb), .nil⟩
  | q :: q' :: r, [], _, _, h => h.elim
  | q :: q' :: r, b :: ls, A, c, h => by
    obtain ⟨bN, g, e1, e2, e3, e4, e5, e6, e7, e8, e9⟩ := h
    obtain ⟨h1, h2, h3⟩ := good_b cor he (q' :: r) ls q (bN + 1) e9
    have hb := (List.getElem?_eq_some_iff.mp e2).1
    have gk := (cor.g g (List.mem_of_getElem? e2)).1
    refine ⟨fun x hx => ?_, fun x hx => ?_, ?_⟩
    · rcases List.mem_cons.mp hx with rfl | hx
      · rcases e3 with h | h <;> rw [h]
        · exact gk.1
        · exact gk.2
      · exact h1 x hx
    · rcases List.mem_cons.mp hx with rfl | hx
      · omega
      · have := h2 x hx
        omega
    · refine List.pairwise_cons.mpr ⟨fun x hx => ?_, h3⟩
      have := h2 x hx
      omega
theorem good_ne : ∀ (ks : List Pt) (ls : List Int) (A : Pt) (c : Nat), RawG gates e true A c ks ls → ∀ (i : Nat) a b, (A :: ks)[i]? = some a → (A :: ks)[i + 1]? = some b → a ≠ b
  | [], _, _, _, h, _, _, _, _, _ => h.elim
  | [q], ls, A, c, h, i, a, b, ha, hb => by
    obtain ⟨h1, h2, h3, h4⟩ := h
    cases i with
    | zero =>
      simp at ha hb
      rw [← ha, ← hb]
      exact h2
    | succ i => simp at hb
  | q :: q' :: r, [], _, _, h, _, _, _, _, _ => h.elim
  | q :: q' :: r, b :: ls, A, c, h, i, x, y, hx, hy => by
    obtain ⟨bN, g, e1, e2, e3, e4, e5, e6, e7, e8, e9⟩ := h
    cases i with
    | zero =>
      simp at hx hy
      rw [← hx, ← hy]
      exact e6
    | succ i => exact good_ne (q' :: r) ls q (bN + 1) e9 i x y (by simpa using hx) (by simpa using hy)
theorem good_ok (cor : Cor gates) (he : bP e) {A : Pt} (hA : bP A) {ks : List Pt} {ls : List Int} (h : RawG gates e true A 0 ks ls) : StrOk gates (A :: ks) ls := by
  have cn := cor.n
  obtain ⟨l1, l2, l3⟩ := good_len ks ls A 0 h
  obtain ⟨b1, b2, b3⟩ := good_b cor he ks ls A 0 h
  have l2 := l2 (Nat.zero_le _)
  refine ⟨cor.g, by omega, fun p hp => ?_, by rw [List.length_cons]; omega, by simp, good_ne ks ls A 0 h, fun b hb => by have := b2 b hb; omega, by omega⟩
  rcases List.mem_cons.mp hp with rfl | hp
  · exact hA
  · exact b1 p hp
theorem pre_at {α : Type} {pre xs : List α} {k : Nat} (hk : pre.length = k) (i : Nat) : (pre ++ xs)[k + i]? = xs[i]? := by
  rw [List.getElem?_append_right (by omega)]
  congr 1
  omega
theorem sl2_len (c last : Nat) : (sl2 gates c last).length = min last gates.length - c := by unfold sl2; rw [List.length_drop, List.length_take]
theorem good_run (cor : Cor gates) {points : List Pt} {bends : List Int} (ok : StrOk gates points bends) : ∀ (ks : List Pt) (ls : List Int) (A : Pt) (c k : Nat) (pre : List Pt) (bpre : List Int) (fd : List Pos3), pre.length = k → bpre.length = k → points = pre ++ A :: ks → bends = bpre ++ ls → c ≤ gates.length → fd.length = c → RawG gates e true A c ks ls → ∃ r, run gates bends points ks.length k fd = some r ∧ r.length = gates.length
  | [], _, _, _, _, _, _, _, _, _, _, _, _, _, h => h.elim
  | [q], ls, A, c, k, pre, bpre, fd, h1, h2, h3, h4, h5, h6, h => by
    obtain ⟨g1, g2, g3, g4⟩ := h
    have g4 := g4 rfl
    have p0 : points[k]? = some A := by rw [h3]; exact pre_at h1 0
    have p1 : points[k + 1]? = some q := by rw [h3]; exact pre_at h1 1
    have pb : bends[k]? = none := by rw [h4, g4]; exact pre_at h2 0
    have bA := ok.p A (List.mem_of_getElem? p0)
    have bq := ok.p q (List.mem_of_getElem? p1)
    have hl : lastN gates bends k = gates.length := by unfold lastN; rw [pb]
    obtain ⟨f, e1, e2⟩ := W3.inn bA bq g2 (k := (k : Int)) (gs := sl2 gates c gates.length) (n := 0) (f := (0, 1)) (fun g hg => ok.g g (List.mem_of_mem_take (List.mem_of_mem_drop hg))) frz (by rw [fr0]; exact Rat.le_refl) g1
    refine ⟨fd ++ f, ?_, ?_⟩
    · rw [List.length_singleton, run, p0, p1]
      dsimp only
      unfold seg closeS
      rw [hl, h6, e1, Option.bind_some, pb]
      rfl
    · rw [List.length_append, e2, sl2_len]
      omega
  | q :: q' :: r, [], _, _, _, _, _, _, _, _, _, _, _, _, h => h.elim
  | q :: q' :: r, b :: ls, A, c, k, pre, bpre, fd, h1, h2, h3, h4, h5, h6, h => by
    obtain ⟨bN, g, e1, e2, e3, e4, e5, e6, e7, e8, e9⟩ := h
    have hb := (List.getElem?_eq_some_iff.mp e2).1
    have p0 : points[k]? = some A := by rw [h3]; exact pre_at h1 0
    have p1 : points[k + 1]? = some q := by rw [h3]; exact pre_at h1 1
    have pb : bends[k]? = some b := by rw [h4]; exact pre_at h2 0
    have bA := ok.p A (List.mem_of_getElem? p0)
    have bq := ok.p q (List.mem_of_getElem? p1)
    have hl : lastN gates bends k = bN := by unfold lastN; rw [pb, e1]; rfl
    obtain ⟨f, f1, f2⟩ := W3.inn bA bq e6 (k := (k : Int)) (gs := sl2 gates c bN) (n := 0) (f := (0, 1)) (fun g hg => ok.g g (List.mem_of_mem_take (List.mem_of_mem_drop hg))) frz (by rw [fr0]; exact Rat.le_refl) e5
    have hfl : (fd ++ f).length = bN := by
      rw [List.length_append, f2, sl2_len]
      omega
    have hsg : seg gates bends A q k fd = some (fd ++ f ++ [((k : Int) + 1, 0, 1)]) := by
      unfold seg closeS
      rw [hl, h6, f1, Option.bind_some, pb]
      dsimp only
      rw [e1, Int.toNat_natCast, e2]
      dsimp only
      rw [if_pos ⟨hfl, e3.imp Eq.symm Eq.symm⟩]
    obtain ⟨rr, r1, r2⟩ := good_run cor ok (q' :: r) ls q (bN + 1) (k + 1) (pre ++ [A]) (bpre ++ [b]) (fd ++ f ++ [((k : Int) + 1, 0, 1)]) (by rw [List.length_append, h1]; rfl) (by rw [List.length_append, h2]; rfl) (by rw [h3, List.append_assoc]; rfl) (by rw [h4, List.append_assoc]; rfl) (by omega) (by rw [List.length_append, hfl]; rfl) e9
    refine ⟨rr, ?_, r2⟩
    rw [List.length_cons, run, p0, p1]
    dsimp only
    rw [hsg, Option.bind_some]
    exact r1
theorem good_okB (cor : Cor gates) {points : List Pt} {bends : List Int} : ∀ (ks : List Pt) (ls : List Int) (A : Pt) (c k : Nat) (pre : List Pt) (bpre : List Int), pre.length = k → bpre.length = k → points = pre ++ A :: ks → bends = bpre ++ ls → RawG gates e true A c ks ls → ∀ i, k ≤ i → i < bends.length → okB gates points bends i = true
  | [], _, _, _, _, _, _, _, _, _, _, h => h.elim
  | [q], ls, A, c, k, pre, bpre, h1, h2, h3, h4, h => by
    obtain ⟨g1, g2, g3, g4⟩ := h
    intro i hi hl
    rw [h4, g4 rfl, List.length_append, h2] at hl
    exact absurd hl (by simp; omega)
  | q :: q' :: r, [], _, _, _, _, _, _, _, _, _, h => h.elim
  | q :: q' :: r, b :: ls, A, c, k, pre, bpre, h1, h2, h3, h4, h => by
    obtain ⟨bN, g, e1, e2, e3, e4, e5, e6, e7, e8, e9⟩ := h
    intro i hi hl
    by_cases ci : i = k
    · subst ci
      have p0 : points[i]? = some A := by rw [h3]; exact pre_at h1 0
      have p1 : points[i + 1]? = some q := by rw [h3]; exact pre_at h1 1
      have p2 : points[i + 2]? = some q' := by rw [h3]; exact pre_at h1 2
      have pb : bends[i]? = some b := by rw [h4]; exact pre_at h2 0
      unfold okB
      rw [p0, p1, p2, pb]
      dsimp only
      rw [e1, Int.toNat_natCast, e2]
      dsimp only
      rw [e8 rfl, e7.hold (cor.g g (List.mem_of_getElem? e2))]
      rfl
    · exact good_okB cor (q' :: r) ls q (bN + 1) (k + 1) (pre ++ [A]) (bpre ++ [b]) (by rw [List.length_append, h1]; rfl) (by rw [List.length_append, h2]; rfl) (by rw [h3, List.append_assoc]; rfl) (by rw [h4, List.append_assoc]; rfl) e9 i (by omega) hl
theorem good_taut (cor : Cor gates) (he : bP e) {A : Pt} (hA : bP A) {ks : List Pt} {ls : List Int} (h : RawG gates e true A 0 ks ls) : tautP gates (A :: ks) ls = true := by
  have ok := good_ok cor he hA h
  obtain ⟨l1, l2, l3⟩ := good_len ks ls A 0 h
  obtain ⟨r, r1, r2⟩ := good_run cor ok ks ls A 0 0 [] [] [] rfl rfl rfl rfl (Nat.zero_le _) rfl h
  unfold tautP
  rw [Bool.and_eq_true]
  constructor
  · unfold thrP
    rw [if_pos (by rw [List.length_cons]; omega), List.length_cons, Nat.add_sub_cancel, r1, Option.bind_some, l3]
    dsimp only
    rw [r2, List.drop_length]
    rfl
  · rw [List.all_eq_true]
    intro i hi
    have hi := rng_mem.mp hi
    exact good_okB (points := A :: ks) (bends := ls) cor ks ls A 0 0 [] [] rfl rfl rfl rfl h i.toNat (Nat.zero_le _) (by omega)
end
end W
set_option Elab.async false
set_option linter.all false
set_option maxRecDepth 100000
set_option maxHeartbeats 2000000
namespace W
open PySem L2 Mi
theorem ws_t {A : Pt} {ps : List Pt} {bs : List Int} (hb : ∀ p ∈ A :: ps, bP p) (hl : ps.length ≤ 1000) (hlen : ps.length ≤ bs.length + 1) : p_without_straight (A :: ps) bs = some (A :: (goS A ps bs).1, (goS A ps bs).2) := by
  unfold p_without_straight
  refine Tot.get (Tot.of (at_t (n := 0) rfl rfl) (Tot.nm (Tot.rngO ⟨by decide, by rw [List.length_cons]; omega⟩ ?_)))
  cases ps with
  | nil =>
    rw [show (([A] : List Pt).length : Int) - 1 = 0 from rfl, rng_nil (by decide)]
    refine Tot.nm ?_
    exact Tot.nm ⟨_, rfl, rfl⟩
  | cons x r =>
    rw [List.length_cons] at hl hlen
    have e0 : (((A :: x :: r).length : Nat) : Int) - 1 = (r.length : Int) + 1 := by rw [List.length_cons, List.length_cons]; omega
    rw [e0]
    refine Tot.forR (fun j s => ∃ (k : Nat) (B : Pt) (K : List Pt), j = (k : Int) + 1 ∧ s.1 = K ++ [B] ∧ bP B ∧ s.1.length ≤ k + 1 ∧ s.2.length ≤ k ∧ A :: (goS A (x :: r) bs).1 = s.1 ++ (goS B ((x :: r).drop k) (bs.drop k)).1 ∧ (goS A (x :: r) bs).2 = s.2 ++ (goS B ((x :: r).drop k) (bs.drop k)).2) (by omega) ⟨0, A, [], rfl, rfl, hb A List.mem_cons_self, Nat.le_refl _, Nat.le_refl _, rfl, rfl⟩ ?_ ?_
    · rintro j ⟨s1, s2⟩ h1 h2 ⟨k, B, K, hj, hs, hB, l1, l2, e1, e2⟩
      dsimp only at hs l1 l2 e1 e2
      have hk : k < r.length := by omega
      have d1 : (x :: r).drop k = (x :: r)[k]'(by rw [List.length_cons]; omega) :: (x :: r).drop (k + 1) := List.drop_eq_getElem_cons _
      have d2 : (x :: r).drop (k + 1) = (x :: r)[k + 1]'(by rw [List.length_cons]; omega) :: (x :: r).drop (k + 2) := List.drop_eq_getElem_cons _
      have d3 : bs.drop k = bs[k]'(by omega) :: bs.drop (k + 1) := List.drop_eq_getElem_cons _
      have p1 : (A :: x :: r)[k + 1]? = some ((x :: r)[k]'(by rw [List.length_cons]; omega)) := by rw [List.getElem?_cons_succ]; exact List.getElem?_eq_getElem _
      have p2 : (A :: x :: r)[k + 2]? = some ((x :: r)[k + 1]'(by rw [List.length_cons]; omega)) := by rw [List.getElem?_cons_succ]; exact List.getElem?_eq_getElem _
      have p3 : bs[k]? = some (bs[k]'(by omega)) := List.getElem?_eq_getElem _
      generalize hX : (x :: r)[k]'(by rw [List.length_cons]; omega) = X at d1 p1
      generalize hY : (x :: r)[k + 1]'(by rw [List.length_cons]; omega) = Y at d2 p2
      generalize bs[k]'(by omega) = b at d3 p3
      have bX := hb X (List.mem_of_getElem? p1)
      have bY := hb Y (List.mem_of_getElem? p2)
      rw [d1, d2, d3, goS] at e1 e2
      rw [← d2] at e1 e2
      refine Tot.of (r := B) (by dsimp only; rw [hs]; exact at_last) (Tot.of (at_t (n := k + 1) (by omega) p1) (Tot.of (at_t (n := k + 2) (by omega) p2) (Tot.of (is_straight_t hB bX bY) ?_)))
      show Tot ((if (!strP B X Y) = true then _ else _ : Option (List Pt × List Int)).bind _) _
      by_cases c : strP B X Y = true
      · rw [if_pos c] at e1 e2
        rw [c]
        refine Tot.nm ⟨_, rfl, k + 1, B, K, by omega, hs, hB, by dsimp only; omega, by dsimp only; omega, e1, e2⟩
      · rw [if_neg c] at e1 e2
        rw [show strP B X Y = false by simpa using c]
        refine Tot.of (r := (s1 ++ [X], s2 ++ [b])) ?_ ⟨_, rfl, k + 1, X, s1, by omega, rfl, bX, ?_, ?_, ?_, ?_⟩
        · rw [if_pos (show (!false) = true from rfl)]
          dsimp only
          rw [at_t (n := k + 1) (by omega) p1, Option.bind_some, app_t (by unfold szl; omega), Option.bind_some, at_t (n := k) (by omega) p3, Option.bind_some, app_t (by unfold szl; omega)]
          rfl
        · dsimp only; rw [List.length_append, List.length_singleton]; omega
        · dsimp only; rw [List.length_append, List.length_singleton]; omega
        · dsimp only at e1 ⊢
          rw [e1, List.append_assoc]
          rfl
        · dsimp only at e2 ⊢
          rw [e2, List.append_assoc]
          rfl
    · rintro ⟨s1, s2⟩ ⟨k, B, K, hj, hs, hB, l1, l2, e1, e2⟩
      dsimp only at hs l1 l2 e1 e2
      have hk : k = r.length := by omega
      have hlast : ∃ z, (x :: r).drop k = [z] ∧ (A :: x :: r).getLast? = some z := by
        have d1 : (x :: r).drop k = (x :: r)[k]'(by rw [List.length_cons]; omega) :: (x :: r).drop (k + 1) := List.drop_eq_getElem_cons _
        refine ⟨_, by rw [d1, List.drop_eq_nil_of_le (by rw [List.length_cons]; omega)], ?_⟩
        rw [List.getLast?_eq_getElem?, show (A :: x :: r).length - 1 = k + 1 by rw [List.length_cons, List.length_cons]; omega, List.getElem?_cons_succ]
        exact List.getElem?_eq_getElem _
      obtain ⟨z, z1, z2⟩ := hlast
      have hg : goS B [z] (bs.drop k) = ([z], []) := by cases bs.drop k <;> rfl
      rw [z1, hg] at e1 e2
      rw [e1, e2, List.append_nil]
      refine Tot.of (r := s1 ++ [z]) ?_ ⟨_, rfl, rfl⟩
      rw [if_pos (decide_eq_true (by rw [List.length_cons, List.length_cons]; omega))]
      dsimp only
      rw [(last_at z2).2, Option.bind_some, app_t (by unfold szl; omega)]
      rfl
theorem W3.front {A N : Pt} {m : Rat} {ys : List Gt} : ∀ {n : Rat} {xs : List Gt}, W3 A N n (xs ++ ys) m → W3 A N n xs m
  | _, [], w => .nil w.le
  | _, _ :: _, .cons h h1 t => .cons h h1 (W3.front t)
def nxt (e : Pt) : FB → Pt
  | none => e
  | some (P, _) => P
section
variable {gates : List Gt} {a e P s : Pt} {f : Nat}
theorem on0 {g : Gt} (hg : GOk g) (h : onG g a) : onAt a P g 0 := by
  have l1 : ln a.1 P.1 0 = (a.1 : Rat) := by unfold ln; grind
  have l2 : ln a.2 P.2 0 = (a.2 : Rat) := by unfold ln; grind
  unfold onAt
  rw [inR_prod, inR_prod, l1, l2]
  obtain ⟨h1, h2⟩ := h
  have key : (a.1 - g.1.1) * (a.1 - g.2.1) ≤ 0 ∧ (a.2 - g.1.2) * (a.2 - g.2.2) ≤ 0 := by
    unfold cr at h1
    unfold dt at h2
    rcases hg.2 with ⟨e1, e2⟩ | ⟨e1, e2⟩
    · have z : (g.2.2 - g.1.2) * (a.1 - g.1.1) = 0 := by rw [e1] at h1 ⊢; grind
      rw [Int.mul_eq_zero] at z
      have z : a.1 - g.1.1 = 0 := by omega
      have z2 : g.1.1 - a.1 = 0 := by omega
      rw [z2] at h2
      rw [z]
      constructor
      · omega
      · grind
    · have z : (g.2.1 - g.1.1) * (a.2 - g.1.2) = 0 := by rw [e1] at h1 ⊢; grind
      rw [Int.mul_eq_zero] at z
      have z : a.2 - g.1.2 = 0 := by omega
      have z2 : g.1.2 - a.2 = 0 := by omega
      rw [z2] at h2
      rw [z]
      constructor
      · grind
      · omega
  constructor
  · exact_mod_cast key.1
  · exact_mod_cast key.2
theorem on1 {g : Gt} (h : P = g.1 ∨ P = g.2) : onAt a P g 1 := by
  have l1 : ln a.1 P.1 1 = (P.1 : Rat) := by unfold ln; grind
  have l2 : ln a.2 P.2 1 = (P.2 : Rat) := by unfold ln; grind
  unfold onAt
  rw [inR_prod, inR_prod, l1, l2]
  have nn : (0 : Rat) ≤ 0 := Rat.le_refl
  rcases h with rfl | rfl
  · constructor <;> (rw [Rat.sub_self, Rat.zero_mul]; exact nn)
  · constructor <;> (rw [Rat.sub_self, Rat.mul_zero]; exact nn)
theorem leg {c last : Nat} (cor : Cor gates) (h : f = c ∨ (f = c + 1 ∧ ∃ g, gates[c]? = some g ∧ onG g a)) (hl : f ≤ last) (w : W3 a P 0 (sl2 gates f last) 1) : W3 a P 0 (sl2 gates c last) 1 := by
  rcases h with rfl | ⟨rfl, g, e1, e2⟩
  · exact w
  · rw [sl2_cons (by omega) e1]
    exact .cons Rat.le_refl (on0 (cor.g g (List.mem_of_getElem? e1)) e2) w
theorem leg1 {c i : Nat} {g : Gt} (hg : gates[i]? = some g) (hP : P = g.1 ∨ P = g.2) (hc : c ≤ i) (w : W3 a P 0 (sl2 gates c i) 1) : W3 a P 0 (sl2 gates c (i + 1)) 1 := by
  rw [sl2_split hg (Nat.lt_succ_self i) (i - c) c (by omega), sl2_nil (Nat.le_refl _)]
  exact W3.app (.cons Rat.le_refl (on1 hP) (.nil Rat.le_refl)) w
theorem z1 : (0 : Rat) ≤ 1 := by decide
theorem nb_end (cor : Cor gates) (hen : ∀ g, gates.getLast? = some g → 0 ≤ sg g e) (h : NB gates e a f none) : W3 a e 0 (sl2 gates f gates.length) 1 ∧ (a = e → gates.length ≤ f) := by
  have ps : Pass gates a f gates.length e := h
  by_cases c : f < gates.length
  · have hl := List.getElem?_eq_getElem (l := gates) (i := gates.length - 1) (by omega)
    generalize gates[gates.length - 1] = g at hl
    have h2 := hen g (by rw [List.getLast?_eq_getElem?]; exact hl)
    have n := (ps (gates.length - 1) g (by omega) (by omega) hl).n
    have hx : sg g e ≠ sg g a := by omega
    refine ⟨(pass_w cor ps hx (Nat.le_refl _) (Nat.le_refl _) (fun k g' hk _ hg' => hen g' ?_) (gates.length - f) f (by omega) (Nat.le_refl _)).2 0 z1 fun g' hlt hg' => ?_, fun he => ?_⟩
    · rw [List.getLast?_eq_getElem?, show gates.length - 1 = k by omega]
      exact hg'
    · have t := ps f g' (Nat.le_refl _) hlt hg'
      exact tm_ge0 (t.fwd hx) t.n
    · rw [he] at n
      omega
  · rw [sl2_nil (by omega)]
    exact ⟨.nil z1, fun _ => by omega⟩
theorem nb_step (cor : Cor gates) (hen : ∀ g, gates.getLast? = some g → 0 ≤ sg g e) {i : Int} (h : NB gates e a f (some (P, i))) : ∃ (iN : Nat) (g : Gt), i = (iN : Int) ∧ gates[iN]? = some g ∧ (P = g.1 ∨ P = g.2) ∧ f ≤ iN ∧ W3 a P 0 (sl2 gates f iN) 1 ∧ a ≠ P ∧ ∀ nb', NB gates e P (iN + 1) nb' → Info a P g (nxt e nb') := by
  obtain ⟨iN, hi, ⟨hf, g, e1, e2, e3, e4⟩ | ⟨ε, at_, b⟩⟩ := h
  · subst hf
    have gk := cor.g g (List.mem_of_getElem? e1)
    have hP : P = g.1 ∨ P = g.2 := by rw [e4]; exact near_or g a
    have hk : 0 < dt a g.1 a g.2 := by
      rcases Int.lt_or_le 0 (dt a g.1 a g.2) with c | c
      · exact c
      · exact absurd ⟨e2, c⟩ e3
    have s1 : sq g.2 g.1 = sq g.1 g.2 := by unfold sq; grind
    have hs := sq_ne gk
    refine ⟨iN, g, hi, e1, hP, Nat.le_refl _, by rw [sl2_nil (Nat.le_refl _)]; exact .nil z1, fun c => e3 (by rw [c]; exact onG_end hP), fun nb' _ => .inr ⟨hP, e2, ?_⟩⟩
    rw [e4]
    unfold near
    split
    · rename_i c
      rw [inner_1]
      exact near_dt e2 hk c hs
    · rename_i c
      rw [inner_2 gk]
      refine near_dt (by have h := e2; unfold sg cr at h; unfold cr; grind) (by unfold dt at hk ⊢; grind) (by omega) (by rw [s1]; exact hs)
  · obtain ⟨g, e1, e2⟩ := b.g
    obtain ⟨h0, hx⟩ := b.ne
    have fi := b.fi; have ia := b.ia; have an := b.an
    have hP : P = g.1 ∨ P = g.2 := by rw [e2]; exact fe_or ε g
    have hs0 : sg g P = 0 := by rw [e2]; exact fe_sg ε g
    have nn := (b.ps iN g fi ia e1).n
    refine ⟨iN, g, hi, e1, hP, fi, ?_, fun c => ?_, fun nb' hnb => .inl ⟨ε, e2, nn, ?_, ?_⟩⟩
    · -- up to the gate before
      have w := (pass_w cor b.ps hx (show iN + 1 ≤ at_ by omega) an (fun k g' hk _ hg' => by
        have : k = iN := by omega
        subst this
        rw [e1] at hg'
        cases hg'
        omega) (iN + 1 - f) f (by omega) (Nat.le_refl _)).2 0 z1 fun g' hlt hg' => by
          have t := b.ps f g' (Nat.le_refl _) (by omega) hg'
          exact tm_ge0 (t.fwd hx) t.n
      rw [sl2_split e1 (Nat.lt_succ_self iN) (iN - f) f (by omega), sl2_nil (Nat.le_refl _)] at w
      exact w.front
    · rw [c, hs0] at nn
      omega
    · cases nb' with
      | none =>
        by_cases c : iN + 1 < gates.length
        · have hg := List.getElem?_eq_getElem (l := gates) (i := iN + 1) c
          have ad := (cor.adj iN g _ e1 hg).fwd
          exact (hnb (iN + 1) _ (Nat.le_refl _) c hg).after hs0 ad.1 ad.2
        · refine hen g ?_
          rw [List.getLast?_eq_getElem?, show gates.length - 1 = iN by omega]
          exact e1
      | some q =>
        obtain ⟨P', i'⟩ := q
        obtain ⟨iN', hi', ⟨hf', g', f1, f2, f3, f4⟩ | ⟨ε', at', b'⟩⟩ := hnb
        · have ad := (cor.adj iN g g' e1 f1).fwd
          show 0 ≤ sg g P'
          rw [f4]
          exact nearC (P := fun x => 0 ≤ sg g x) (near_or g' P) ad.1 ad.2
        · have fi' := b'.fi; have ia' := b'.ia; have an' := b'.an
          have hg := List.getElem?_eq_getElem (l := gates) (i := iN + 1) (by omega)
          have ad := (cor.adj iN g _ e1 hg).fwd
          exact (b'.ps (iN + 1) _ (Nat.le_refl _) (by omega) hg).after hs0 ad.1 ad.2
    · cases nb' with
      | none => exact b.turnE hen hnb
      | some q =>
        obtain ⟨P', i'⟩ := q
        obtain ⟨iN', hi', ⟨hf', g', f1, f2, f3, f4⟩ | ⟨ε', at', b'⟩⟩ := hnb
        · show 0 < cs ε a P P'
          rw [f4]
          exact b.turnN cor f1 f2 f3
        · exact b.turn cor hen b'
end
end W
set_option Elab.async false
set_option linter.all false
set_option maxRecDepth 100000
set_option maxHeartbeats 2000000
namespace W
open PySem L2 Mi
section
variable {gates : List Gt} {a e P s : Pt} {f : Nat}
theorem raw_len : ∀ {ps : List Pt} {bs : List Int} {A : Pt} {c : Nat} {fl : Bool}, RawG gates e fl A c ps bs → ps.length ≤ bs.length + 1
  | [], _, _, _, _, h => h.elim
  | [_], _, _, _, _, _ => by simp
  | _ :: _ :: _, [], _, _, _, h => h.elim
  | _ :: _ :: _, _ :: _, _, _, _, h => by
    obtain ⟨bN, g, e1, e2, e3, e4, e5, e6, e7, e8, e9⟩ := h
    have := raw_len e9
    simp only [List.length_cons] at this ⊢
    omega
structure TI (gates : List Gt) (e s : Pt) (points : List Pt) (bends : List Int) (nb : FB) (c : Nat) (a : Pt) (f : Nat) (pre : List Pt) (T : Pt → Prop) : Prop where
  pts : points = s :: pre
  last : points.getLast? = some a
  hnb : NB gates e a f nb
  lg : f = c ∨ (f = c + 1 ∧ ∃ g, gates[c]? = some g ∧ onG g a)
  cn : c ≤ gates.length
  K : ∀ N ps bs, T N → RawG gates e false a c (N :: ps) bs → RawG gates e false s 0 (pre ++ N :: ps) (bends ++ bs)
  T : T (nxt e nb)
  K2 : a = e → c = gates.length → pre ≠ [] → RawG gates e false s 0 pre bends
  ba : bP a
  pl : pre.length ≤ c
  bl : bends.length ≤ c
  bp : ∀ p ∈ pre, bP p
  pe : pre = [] → a = s ∧ c = 0 ∧ bends = []
  pf : pre ≠ [] → f = c
def TautOk (gates : List Gt) (e s : Pt) (r : List Pt × List Int) : Prop := (r = ([s], []) ∧ s = e ∧ (gates = [] ∨ ∃ g, gates = [g] ∧ onG g s)) ∨ ∃ ks, r.1 = s :: ks ∧ RawG gates e true s 0 ks r.2
theorem TI.fin {points bends c f pre T} (t : TI gates e s points bends none c a f pre T) (cor : Cor gates) (hs : bP s) (he : bP e) (hen : ∀ g, gates.getLast? = some g → 0 ≤ sg g e) :
    Tot (((if (!decide (a = e)) = true then (Pl.app points e).bind fun v => some v else some points) : Option (List Pt)).bind fun j => (p_without_straight j bends).bind fun r => some r) (TautOk gates e s) := by
  obtain ⟨w, wn⟩ := nb_end cor hen t.hnb
  have cn := cor.n
  have cl := t.cn
  have ppl := t.pl
  have fn : f ≤ gates.length := by
    rcases t.lg with h | ⟨h, g, h1, _⟩
    · omega
    · have := (List.getElem?_eq_some_iff.mp h1).1
      omega
  have wc := leg cor t.lg fn w
  have good : ∀ ps bs, RawG gates e false s 0 ps bs → (∀ p ∈ ps, bP p) → ps.length ≤ 1000 → ∃ r, p_without_straight (s :: ps) bs = some r ∧ TautOk gates e s r := fun ps bs h hb hl => by
    refine ⟨_, ws_t (fun p hp => ?_) hl (raw_len h), .inr ⟨_, rfl, go_good ps bs s 0 h⟩⟩
    rcases List.mem_cons.mp hp with rfl | hp
    · exact hs
    · exact hb p hp
  by_cases hae : a = e
  · rw [decide_eq_true hae]
    refine Tot.nm ?_
    have hfn : f = gates.length := by have := wn hae; omega
    by_cases hpre : pre = []
    · obtain ⟨e1, e2, e3⟩ := t.pe hpre
      rw [t.pts, hpre, e3]
      refine Tot.of (ws_t (ps := []) (bs := []) (fun p hp => by rw [List.mem_singleton.mp hp]; exact hs) (by simp) (by simp)) ⟨_, rfl, .inl ⟨rfl, by rw [← e1]; exact hae, ?_⟩⟩
      rcases t.lg with h | ⟨h, g, h1, h2⟩
      · left
        exact List.length_eq_zero_iff.mp (by omega)
      · right
        rw [e2] at h1
        have hl : gates.length = 1 := by omega
        obtain ⟨g', hg'⟩ := List.length_eq_one_iff.mp hl
        rw [hg'] at h1
        cases h1
        exact ⟨g, hg', by rw [← e1]; exact h2⟩
    · have hf := t.pf hpre
      obtain ⟨r, r1, r2⟩ := good pre bends (t.K2 hae (by omega) hpre) t.bp (by omega)
      rw [t.pts]
      exact Tot.of r1 ⟨_, rfl, r2⟩
  · rw [decide_eq_false hae]
    have raw := t.K e [] [] t.T ⟨wc, hae, rfl, fun h => by cases h⟩
    rw [List.append_nil] at raw
    obtain ⟨r, r1, r2⟩ := good (pre ++ [e]) bends raw (fun p hp => by
      rcases List.mem_append.mp hp with h | h
      · exact t.bp p h
      · rw [List.mem_singleton.mp h]; exact he) (by rw [List.length_append, List.length_singleton]; omega)
    refine Tot.of (r := s :: (pre ++ [e])) ?_ (Tot.of r1 ⟨_, rfl, r2⟩)
    rw [if_pos (show (!false) = true from rfl), t.pts, app_t (by rw [List.length_cons]; unfold szl; omega)]
    rfl
theorem taut_t (cor : Cor gates) (hs : bP s) (he : bP e) (hen : ∀ g, gates.getLast? = some g → 0 ≤ sg g e) (hst : ∀ g, gates[0]? = some g → sg g s ≤ 0) : Tot (p_taut s gates e) (TautOk gates e s) := by
  have cn := cor.n
  obtain ⟨f0, S0, hf0⟩ := start_first cor hst
  unfold p_taut
  refine Tot.nm (Tot.bind (next_t cor hs he hen (first := 0) (by omega) S0) fun nb hnb => ?_)
  refine Tot.wh (fun m (st : List Pt × List Int × FB) => ∃ c a f pre T, m = gates.length - c ∧ TI gates e s st.1 st.2.1 st.2.2 c a f pre T) (fun st => st.2.2 = none ∧ ∃ c a f pre T, TI gates e s st.1 st.2.1 none c a f pre T) (fun _ => False) (gates.length - 0) ⟨0, s, f0, [], fun _ => True, rfl, ?_⟩ ?_ ?_ fun r h => h.elim
  · refine ⟨rfl, rfl, hnb, ?_, Nat.zero_le _, fun N ps bs _ h => h, trivial, fun _ _ h => absurd rfl h, hs, Nat.le_refl _, Nat.le_refl _, fun p hp => (by cases hp), fun _ => ⟨rfl, rfl, rfl⟩, fun h => absurd rfl h⟩
    rcases hf0 with h | ⟨h, h2⟩
    · exact .inl h
    · exact .inr ⟨h, h2⟩
  · rintro m ⟨points, bends, nb⟩ ⟨c, a, f, pre, T, hm, t⟩
    refine ⟨_, rfl, fun hp => ?_, fun hp => ?_⟩
    · have hn : nb = none := by simpa using hp
      subst hn
      exact ⟨rfl, c, a, f, pre, T, t⟩
    · cases nb with
      | none => cases hp
      | some q =>
        obtain ⟨P, i⟩ := q
        obtain ⟨iN, g, hi, hg, hP, hfi, w, hne, info⟩ := nb_step cor hen t.hnb
        have hin := (List.getElem?_eq_some_iff.mp hg).1
        have gk := cor.g g (List.mem_of_getElem? hg)
        have bPp : bP P := by rcases hP with h | h <;> rw [h]; exact gk.1.1; exact gk.1.2
        have pl := t.pl; have bl := t.bl; have cl := t.cn
        dsimp only at bl
        have cf : c ≤ f := by rcases t.lg with h | ⟨h, _⟩ <;> omega
        have wc := leg cor t.lg hfi w
        have tp := t.pts
        dsimp only at tp
        refine Tot.of (r := (P, i)) rfl (Tot.of (app_t (by dsimp only; rw [tp, List.length_cons]; unfold szl; omega)) (Tot.of (r := (P, i)) rfl (Tot.of (app_t (by dsimp only; unfold szl; omega)) (Tot.of (r := (P, i)) rfl (Tot.of (r := (P, i)) rfl ?_)))))
        have ei : (P, i).2 + (1 : Int) = ((iN + 1 : Nat) : Int) := by dsimp only; omega
        rw [ei]
        refine Tot.bind (next_t cor bPp he hen (by omega) (start_end cor hg hP)) fun nb' hnb' => ⟨_, rfl, gates.length - (iN + 1), by omega, iN + 1, P, iN + 1, pre ++ [P], fun N => Info a P g N, rfl, ?_⟩
        refine ⟨?_, ?_, hnb', .inl rfl, by omega, fun N ps bs hT h => ?_, info nb' hnb', fun h1 h2 _ => ?_, bPp, ?_, ?_, fun p hp => ?_, fun h => ?_, fun _ => rfl⟩
        · dsimp only
          rw [tp]
          rfl
        · dsimp only
          rw [List.getLast?_append]
          rfl
        · dsimp only
          rw [List.append_assoc, List.append_assoc]
          refine t.K P (N :: ps) (i :: bs) t.T ⟨iN, g, hi, hg, hP, by omega, wc, hne, hT, fun h => (by cases h), h⟩
        · dsimp only
          refine t.K P [] [i] t.T ⟨?_, hne, h1, fun h => by cases h⟩
          rw [← h2]
          exact leg1 hg hP (by omega) wc
        · rw [List.length_append, List.length_singleton]
          omega
        · dsimp only
          rw [List.length_append, List.length_singleton]
          omega
        · rcases List.mem_append.mp hp with h | h
          · exact t.bp p h
          · rw [List.mem_singleton.mp h]; exact bPp
        · simp at h
  · rintro ⟨points, bends, nb⟩ ⟨hn, c, a, f, pre, T, t⟩
    dsimp only at hn
    refine Tot.of (last_at t.last).2 ?_
    exact t.fin cor hs he hen
/-- what the law asks of a string -/
theorem TautOk.facts (cor : Cor gates) (hs : bP s) (he : bP e) {r : List Pt × List Int} (h : TautOk gates e s r) : r.1[0]? = some s ∧ r.1.getLast? = some e ∧ (r.1.length = 1 → s = e) ∧ StrOk gates r.1 r.2 ∧ r.2.Pairwise (· ≤ ·) ∧ tautP gates r.1 r.2 = true := by
  have cn := cor.n
  rcases h with ⟨rfl, rfl, hg⟩ | ⟨ks, h1, h2⟩
  · refine ⟨rfl, rfl, fun _ => rfl, ⟨cor.g, by omega, fun p hp => by rw [List.mem_singleton.mp hp]; exact hs, by simp, by simp, fun i a b _ hb => by simp at hb, fun b hb => (by cases hb), by simp⟩, .nil, ?_⟩
    rcases hg with rfl | ⟨g, rfl, ho⟩
    · rfl
    · show (((restP s 0 [g] []).isSome) && true) = true
      rw [restP, if_pos (show cr g.1 g.2 s = 0 ∧ dt s g.1 s g.2 ≤ 0 from ho)]
      rfl
  · rw [h1]
    obtain ⟨l1, l2, l3⟩ := good_len ks r.2 s 0 h2
    obtain ⟨b1, b2, b3⟩ := good_b cor he ks r.2 s 0 h2
    refine ⟨rfl, l3, fun h => ?_, good_ok cor he hs h2, b3, good_taut cor he hs h2⟩
    rw [List.length_cons] at h
    have : ks = [] := List.length_eq_zero_iff.mp (by omega)
    rw [this] at h2
    exact h2.elim
end
end W
set_option Elab.async false
set_option linter.all false
set_option maxRecDepth 100000
set_option maxHeartbeats 4000000
namespace W
open PySem L2 Mi
abbrev Rc := Int × Int × Int × Int
def gAt (r : Rc) (s a b : Int) : Gt :=
  if s = 0 then ((r.2.2.1, a + 1), (r.2.2.1, b - 1)) else if s = 1 then ((b - 1, r.2.2.2), (a + 1, r.2.2.2)) else if s = 2 then ((r.1, b - 1), (r.1, a + 1)) else ((a + 1, r.2.1), (b - 1, r.2.1))
def rNext (r : Rc) (s lo hi dp : Int) : Rc :=
  if s = 0 then (r.2.2.1, lo, r.2.2.1 + dp, hi) else if s = 1 then (lo, r.2.2.2, hi, r.2.2.2 + dp) else if s = 2 then (r.1 - dp, lo, r.1, hi) else (lo, r.2.1 - dp, hi, r.2.1)
def revG (g : Gt) : Gt := (g.2, g.1)
def s4 (s : Int) : Prop := 0 ≤ s ∧ s < 4
/-- how far a point lies beyond a side -/
def Dd (r : Rc) (s : Int) (p : Pt) : Int := if s = 0 then p.1 - r.2.2.1 else if s = 1 then p.2 - r.2.2.2 else if s = 2 then r.1 - p.1 else r.2.1 - p.2
def InS (r : Rc) (s a b : Int) : Prop := a + 3 ≤ b ∧ ((s = 0 ∨ s = 2) → r.2.1 ≤ a ∧ b ≤ r.2.2.2) ∧ ((s = 1 ∨ s = 3) → r.1 ≤ a ∧ b ≤ r.2.2.1)
structure RcOk (r : Rc) (n : Int) : Prop where
  x : r.1 + 3 ≤ r.2.2.1
  z : r.2.1 + 3 ≤ r.2.2.2
  a : -n ≤ r.1
  b : r.2.2.1 ≤ n
  c : -n ≤ r.2.1
  d : r.2.2.2 ≤ n
def InR (r : Rc) (p : Pt) : Prop := r.1 ≤ p.1 ∧ p.1 ≤ r.2.2.1 ∧ r.2.1 ≤ p.2 ∧ p.2 ≤ r.2.2.2
theorem s4_cases {s : Int} (h : s4 s) : s = 0 ∨ s = 1 ∨ s = 2 ∨ s = 3 := by unfold s4 at h; omega
theorem gAt0 {r : Rc} {a b : Int} : gAt r 0 a b = ((r.2.2.1, a + 1), (r.2.2.1, b - 1)) := rfl
theorem gAt1 {r : Rc} {a b : Int} : gAt r 1 a b = ((b - 1, r.2.2.2), (a + 1, r.2.2.2)) := rfl
theorem gAt2 {r : Rc} {a b : Int} : gAt r 2 a b = ((r.1, b - 1), (r.1, a + 1)) := rfl
theorem gAt3 {r : Rc} {a b : Int} : gAt r 3 a b = ((a + 1, r.2.1), (b - 1, r.2.1)) := rfl
theorem sg_gAt {r : Rc} {s a b : Int} (hs : s4 s) (p : Pt) : sg (gAt r s a b) p = (b - a - 2) * Dd r s p := by
  rcases s4_cases hs with rfl | rfl | rfl | rfl
  · rw [gAt0]; unfold sg cr; show _ = (b - a - 2) * (p.1 - r.2.2.1); dsimp only; grind
  · rw [gAt1]; unfold sg cr; show _ = (b - a - 2) * (p.2 - r.2.2.2); dsimp only; grind
  · rw [gAt2]; unfold sg cr; show _ = (b - a - 2) * (r.1 - p.1); dsimp only; grind
  · rw [gAt3]; unfold sg cr; show _ = (b - a - 2) * (r.2.1 - p.2); dsimp only; grind
theorem sg_rev (g : Gt) (p : Pt) : sg (revG g) p = - sg g p := by unfold sg revG cr; dsimp only; grind
theorem Dd_in {r : Rc} {s : Int} (hs : s4 s) {p : Pt} (h : InR r p) : Dd r s p ≤ 0 := by
  obtain ⟨h1, h2, h3, h4⟩ := h
  rcases s4_cases hs with rfl | rfl | rfl | rfl
  · show p.1 - r.2.2.1 ≤ 0; omega
  · show p.2 - r.2.2.2 ≤ 0; omega
  · show r.1 - p.1 ≤ 0; omega
  · show r.2.1 - p.2 ≤ 0; omega
theorem Dd_end {r : Rc} {n s u a b : Int} (hr : RcOk r n) (hs : s4 s) (hu : s4 u) (hne : u ≠ s) (h : InS r s a b) : Dd r u (gAt r s a b).1 < 0 ∧ Dd r u (gAt r s a b).2 < 0 := by
  obtain ⟨h0, h1, h2⟩ := h
  have x := hr.x
  have z := hr.z
  rcases s4_cases hs with rfl | rfl | rfl | rfl
  · obtain ⟨q1, q2⟩ := h1 (.inl rfl)
    rw [gAt0]
    rcases s4_cases hu with rfl | rfl | rfl | rfl
    · exact absurd rfl hne
    · show a + 1 - r.2.2.2 < 0 ∧ b - 1 - r.2.2.2 < 0; omega
    · show r.1 - r.2.2.1 < 0 ∧ r.1 - r.2.2.1 < 0; omega
    · show r.2.1 - (a + 1) < 0 ∧ r.2.1 - (b - 1) < 0; omega
  · obtain ⟨q1, q2⟩ := h2 (.inl rfl)
    rw [gAt1]
    rcases s4_cases hu with rfl | rfl | rfl | rfl
    · show b - 1 - r.2.2.1 < 0 ∧ a + 1 - r.2.2.1 < 0; omega
    · exact absurd rfl hne
    · show r.1 - (b - 1) < 0 ∧ r.1 - (a + 1) < 0; omega
    · show r.2.1 - r.2.2.2 < 0 ∧ r.2.1 - r.2.2.2 < 0; omega
  · obtain ⟨q1, q2⟩ := h1 (.inr rfl)
    rw [gAt2]
    rcases s4_cases hu with rfl | rfl | rfl | rfl
    · show r.1 - r.2.2.1 < 0 ∧ r.1 - r.2.2.1 < 0; omega
    · show b - 1 - r.2.2.2 < 0 ∧ a + 1 - r.2.2.2 < 0; omega
    · exact absurd rfl hne
    · show r.2.1 - (b - 1) < 0 ∧ r.2.1 - (a + 1) < 0; omega
  · obtain ⟨q1, q2⟩ := h2 (.inr rfl)
    rw [gAt3]
    rcases s4_cases hu with rfl | rfl | rfl | rfl
    · show a + 1 - r.2.2.1 < 0 ∧ b - 1 - r.2.2.1 < 0; omega
    · show r.2.1 - r.2.2.2 < 0 ∧ r.2.1 - r.2.2.2 < 0; omega
    · show r.1 - (a + 1) < 0 ∧ r.1 - (b - 1) < 0; omega
    · exact absurd rfl hne
theorem Dd_self {r : Rc} {s a b : Int} (hs : s4 s) : Dd r s (gAt r s a b).1 = 0 ∧ Dd r s (gAt r s a b).2 = 0 := by
  rcases s4_cases hs with rfl | rfl | rfl | rfl
  · show r.2.2.1 - r.2.2.1 = 0 ∧ r.2.2.1 - r.2.2.1 = 0; omega
  · show r.2.2.2 - r.2.2.2 = 0 ∧ r.2.2.2 - r.2.2.2 = 0; omega
  · show r.1 - r.1 = 0 ∧ r.1 - r.1 = 0; omega
  · show r.2.1 - r.2.1 = 0 ∧ r.2.1 - r.2.1 = 0; omega
theorem mneg {x y : Int} (hx : 0 < x) (hy : y < 0) : x * y < 0 := by
  have := Int.mul_pos hx (show 0 < -y by omega)
  grind
theorem mneg2 {x y : Int} (hx : x < 0) (hy : 0 < y) : x * y < 0 := by
  have := Int.mul_pos (show 0 < -x by omega) hy
  grind
/-- two gates of one rectangle -/
theorem adj_rect {r : Rc} {n s u a b a' b' : Int} (hr : RcOk r n) (hs : s4 s) (hu : s4 u) (h : InS r u a b) (h' : InS r s a' b') (hap : u = s → b ≤ a' ∨ b' ≤ a) : Adj (revG (gAt r u a b)) (gAt r s a' b') := by
  have l : 0 < b - a - 2 := by have := h.1; omega
  have l' : 0 < b' - a' - 2 := by have := h'.1; omega
  by_cases c : u = s
  · right
    subst c
    have e1 := Dd_self (r := r) (a := a) (b := b) hu
    have e2 := Dd_self (r := r) (a := a') (b := b') hu
    have hap2 := hap rfl
    refine ⟨?_, ?_, ?_, ?_, ?_, ?_⟩
    · rw [sg_rev, sg_gAt hu, e2.1, Int.mul_zero]; rfl
    · rw [sg_rev, sg_gAt hu, e2.2, Int.mul_zero]; rfl
    · rw [sg_gAt hu]; show _ * Dd r u (gAt r u a b).2 = 0; rw [e1.2, Int.mul_zero]
    · rw [sg_gAt hu]; show _ * Dd r u (gAt r u a b).1 = 0; rw [e1.1, Int.mul_zero]
    · rcases s4_cases hu with rfl | rfl | rfl | rfl
      · show (r.2.2.1 - r.2.2.1) * (r.2.2.1 - r.2.2.1) + (a + 1 - (b - 1)) * (b' - 1 - (a' + 1)) < 0
        rw [Int.sub_self, Int.zero_mul, Int.zero_add]; exact mneg2 (by omega) (by omega)
      · show (b - 1 - (a + 1)) * (a' + 1 - (b' - 1)) + (r.2.2.2 - r.2.2.2) * (r.2.2.2 - r.2.2.2) < 0
        rw [Int.sub_self, Int.zero_mul, Int.add_zero]; exact mneg (by omega) (by omega)
      · show (r.1 - r.1) * (r.1 - r.1) + (b - 1 - (a + 1)) * (a' + 1 - (b' - 1)) < 0
        rw [Int.sub_self, Int.zero_mul, Int.zero_add]; exact mneg (by omega) (by omega)
      · show (a + 1 - (b - 1)) * (b' - 1 - (a' + 1)) + (r.2.1 - r.2.1) * (r.2.1 - r.2.1) < 0
        rw [Int.sub_self, Int.zero_mul, Int.add_zero]; exact mneg2 (by omega) (by omega)
    · have k : ∀ x y : Int, (x - x) * (x - x) + y = y := fun x y => by rw [Int.sub_self, Int.zero_mul, Int.zero_add]
      have k2 : ∀ x y : Int, y + (x - x) * (x - x) = y := fun x y => by rw [Int.sub_self, Int.zero_mul, Int.add_zero]
      rcases s4_cases hu with rfl | rfl | rfl | rfl
      · show (0 < (r.2.2.1 - r.2.2.1) * (r.2.2.1 - r.2.2.1) + (a + 1 - (b - 1)) * (a' + 1 - (b - 1)) ∧ 0 < (r.2.2.1 - r.2.2.1) * (r.2.2.1 - r.2.2.1) + (a + 1 - (b - 1)) * (b' - 1 - (b - 1)) ∧ 0 < (r.2.2.1 - r.2.2.1) * (r.2.2.1 - r.2.2.1) + (a + 1 - (b - 1)) * (a' + 1 - (a + 1)) ∧ 0 < (r.2.2.1 - r.2.2.1) * (r.2.2.1 - r.2.2.1) + (a + 1 - (b - 1)) * (b' - 1 - (a + 1))) ∨ ((r.2.2.1 - r.2.2.1) * (r.2.2.1 - r.2.2.1) + (a + 1 - (b - 1)) * (a' + 1 - (b - 1)) < 0 ∧ (r.2.2.1 - r.2.2.1) * (r.2.2.1 - r.2.2.1) + (a + 1 - (b - 1)) * (b' - 1 - (b - 1)) < 0 ∧ (r.2.2.1 - r.2.2.1) * (r.2.2.1 - r.2.2.1) + (a + 1 - (b - 1)) * (a' + 1 - (a + 1)) < 0 ∧ (r.2.2.1 - r.2.2.1) * (r.2.2.1 - r.2.2.1) + (a + 1 - (b - 1)) * (b' - 1 - (a + 1)) < 0)
        simp only [k]
        rcases hap2 with c | c
        · exact .inr ⟨mneg2 (by omega) (by omega), mneg2 (by omega) (by omega), mneg2 (by omega) (by omega), mneg2 (by omega) (by omega)⟩
        · exact .inl ⟨Int.mul_pos_of_neg_of_neg (by omega) (by omega), Int.mul_pos_of_neg_of_neg (by omega) (by omega), Int.mul_pos_of_neg_of_neg (by omega) (by omega), Int.mul_pos_of_neg_of_neg (by omega) (by omega)⟩
      · show (0 < (b - 1 - (a + 1)) * (b' - 1 - (a + 1)) + (r.2.2.2 - r.2.2.2) * (r.2.2.2 - r.2.2.2) ∧ 0 < (b - 1 - (a + 1)) * (a' + 1 - (a + 1)) + (r.2.2.2 - r.2.2.2) * (r.2.2.2 - r.2.2.2) ∧ 0 < (b - 1 - (a + 1)) * (b' - 1 - (b - 1)) + (r.2.2.2 - r.2.2.2) * (r.2.2.2 - r.2.2.2) ∧ 0 < (b - 1 - (a + 1)) * (a' + 1 - (b - 1)) + (r.2.2.2 - r.2.2.2) * (r.2.2.2 - r.2.2.2)) ∨ ((b - 1 - (a + 1)) * (b' - 1 - (a + 1)) + (r.2.2.2 - r.2.2.2) * (r.2.2.2 - r.2.2.2) < 0 ∧ (b - 1 - (a + 1)) * (a' + 1 - (a + 1)) + (r.2.2.2 - r.2.2.2) * (r.2.2.2 - r.2.2.2) < 0 ∧ (b - 1 - (a + 1)) * (b' - 1 - (b - 1)) + (r.2.2.2 - r.2.2.2) * (r.2.2.2 - r.2.2.2) < 0 ∧ (b - 1 - (a + 1)) * (a' + 1 - (b - 1)) + (r.2.2.2 - r.2.2.2) * (r.2.2.2 - r.2.2.2) < 0)
        simp only [k2]
        rcases hap2 with c | c
        · exact .inl ⟨Int.mul_pos (by omega) (by omega), Int.mul_pos (by omega) (by omega), Int.mul_pos (by omega) (by omega), Int.mul_pos (by omega) (by omega)⟩
        · exact .inr ⟨mneg (by omega) (by omega), mneg (by omega) (by omega), mneg (by omega) (by omega), mneg (by omega) (by omega)⟩
      · show (0 < (r.1 - r.1) * (r.1 - r.1) + (b - 1 - (a + 1)) * (b' - 1 - (a + 1)) ∧ 0 < (r.1 - r.1) * (r.1 - r.1) + (b - 1 - (a + 1)) * (a' + 1 - (a + 1)) ∧ 0 < (r.1 - r.1) * (r.1 - r.1) + (b - 1 - (a + 1)) * (b' - 1 - (b - 1)) ∧ 0 < (r.1 - r.1) * (r.1 - r.1) + (b - 1 - (a + 1)) * (a' + 1 - (b - 1))) ∨ ((r.1 - r.1) * (r.1 - r.1) + (b - 1 - (a + 1)) * (b' - 1 - (a + 1)) < 0 ∧ (r.1 - r.1) * (r.1 - r.1) + (b - 1 - (a + 1)) * (a' + 1 - (a + 1)) < 0 ∧ (r.1 - r.1) * (r.1 - r.1) + (b - 1 - (a + 1)) * (b' - 1 - (b - 1)) < 0 ∧ (r.1 - r.1) * (r.1 - r.1) + (b - 1 - (a + 1)) * (a' + 1 - (b - 1)) < 0)
        simp only [k]
        rcases hap2 with c | c
        · exact .inl ⟨Int.mul_pos (by omega) (by omega), Int.mul_pos (by omega) (by omega), Int.mul_pos (by omega) (by omega), Int.mul_pos (by omega) (by omega)⟩
        · exact .inr ⟨mneg (by omega) (by omega), mneg (by omega) (by omega), mneg (by omega) (by omega), mneg (by omega) (by omega)⟩
      · show (0 < (a + 1 - (b - 1)) * (a' + 1 - (b - 1)) + (r.2.1 - r.2.1) * (r.2.1 - r.2.1) ∧ 0 < (a + 1 - (b - 1)) * (b' - 1 - (b - 1)) + (r.2.1 - r.2.1) * (r.2.1 - r.2.1) ∧ 0 < (a + 1 - (b - 1)) * (a' + 1 - (a + 1)) + (r.2.1 - r.2.1) * (r.2.1 - r.2.1) ∧ 0 < (a + 1 - (b - 1)) * (b' - 1 - (a + 1)) + (r.2.1 - r.2.1) * (r.2.1 - r.2.1)) ∨ ((a + 1 - (b - 1)) * (a' + 1 - (b - 1)) + (r.2.1 - r.2.1) * (r.2.1 - r.2.1) < 0 ∧ (a + 1 - (b - 1)) * (b' - 1 - (b - 1)) + (r.2.1 - r.2.1) * (r.2.1 - r.2.1) < 0 ∧ (a + 1 - (b - 1)) * (a' + 1 - (a + 1)) + (r.2.1 - r.2.1) * (r.2.1 - r.2.1) < 0 ∧ (a + 1 - (b - 1)) * (b' - 1 - (a + 1)) + (r.2.1 - r.2.1) * (r.2.1 - r.2.1) < 0)
        simp only [k2]
        rcases hap2 with c | c
        · exact .inr ⟨mneg2 (by omega) (by omega), mneg2 (by omega) (by omega), mneg2 (by omega) (by omega), mneg2 (by omega) (by omega)⟩
        · exact .inl ⟨Int.mul_pos_of_neg_of_neg (by omega) (by omega), Int.mul_pos_of_neg_of_neg (by omega) (by omega), Int.mul_pos_of_neg_of_neg (by omega) (by omega), Int.mul_pos_of_neg_of_neg (by omega) (by omega)⟩
  · left
    have e1 := Dd_end hr hs hu c h'
    have e2 := Dd_end hr hu hs (fun q => c q.symm) h
    refine ⟨?_, ?_, ?_, ?_⟩
    · rw [sg_rev, sg_gAt hu]; have := mneg l e1.1; omega
    · rw [sg_rev, sg_gAt hu]; have := mneg l e1.2; omega
    · rw [sg_gAt hs]; exact mneg l' e2.2
    · rw [sg_gAt hs]; exact mneg l' e2.1
theorem gAt_ok {r : Rc} {n s a b : Int} (hr : RcOk r n) (hn : n ≤ 10000) (hs : s4 s) (h : InS r s a b) : GOk (gAt r s a b) := by
  obtain ⟨h0, h1, h2⟩ := h
  obtain ⟨x, z, ra, rb, rc, rd⟩ := hr
  rcases s4_cases hs with rfl | rfl | rfl | rfl
  · obtain ⟨q1, q2⟩ := h1 (.inl rfl)
    rw [gAt0]
    refine ⟨⟨⟨?_, ?_⟩, ?_, ?_⟩, .inl ⟨rfl, ?_⟩⟩ <;> (try unfold bN) <;> dsimp only <;> omega
  · obtain ⟨q1, q2⟩ := h2 (.inl rfl)
    rw [gAt1]
    refine ⟨⟨⟨?_, ?_⟩, ?_, ?_⟩, .inr ⟨rfl, ?_⟩⟩ <;> (try unfold bN) <;> dsimp only <;> omega
  · obtain ⟨q1, q2⟩ := h1 (.inr rfl)
    rw [gAt2]
    refine ⟨⟨⟨?_, ?_⟩, ?_, ?_⟩, .inl ⟨rfl, ?_⟩⟩ <;> (try unfold bN) <;> dsimp only <;> omega
  · obtain ⟨q1, q2⟩ := h2 (.inr rfl)
    rw [gAt3]
    refine ⟨⟨⟨?_, ?_⟩, ?_, ?_⟩, .inr ⟨rfl, ?_⟩⟩ <;> (try unfold bN) <;> dsimp only <;> omega
def bQ (p : Pt) : Prop := (-9000 ≤ p.1 ∧ p.1 ≤ 9000) ∧ -9000 ≤ p.2 ∧ p.2 ≤ 9000
theorem gAt_sm {r : Rc} {n s a b : Int} (hr : RcOk r n) (hn : n ≤ 9000) (hs : s4 s) (h : InS r s a b) : bQ (gAt r s a b).1 ∧ bQ (gAt r s a b).2 := by
  obtain ⟨h0, h1, h2⟩ := h
  obtain ⟨x, z, ra, rb, rc, rd⟩ := hr
  unfold bQ
  rcases s4_cases hs with rfl | rfl | rfl | rfl
  · obtain ⟨q1, q2⟩ := h1 (.inl rfl)
    rw [gAt0]; dsimp only; omega
  · obtain ⟨q1, q2⟩ := h2 (.inl rfl)
    rw [gAt1]; dsimp only; omega
  · obtain ⟨q1, q2⟩ := h1 (.inr rfl)
    rw [gAt2]; dsimp only; omega
  · obtain ⟨q1, q2⟩ := h2 (.inr rfl)
    rw [gAt3]; dsimp only; omega
/-- the next rectangle, and the gate as seen from it -/
theorem next_ok {r : Rc} {n s a b lo hi dp : Int} (hr : RcOk r n) (hs : s4 s) (h : InS r s a b) (h1 : a - 5 ≤ lo ∧ lo ≤ a) (h2 : b ≤ hi ∧ hi ≤ b + 5) (h3 : 3 ≤ dp ∧ dp ≤ 10) : RcOk (rNext r s lo hi dp) (n + 10) ∧ s4 ((s + 2) % 4) ∧ InS (rNext r s lo hi dp) ((s + 2) % 4) a b ∧ gAt r s a b = revG (gAt (rNext r s lo hi dp) ((s + 2) % 4) a b) := by
  obtain ⟨h0, i1, i2⟩ := h
  obtain ⟨x, z, ra, rb, rc, rd⟩ := hr
  rcases s4_cases hs with rfl | rfl | rfl | rfl
  · obtain ⟨q1, q2⟩ := i1 (.inl rfl)
    have e : rNext r 0 lo hi dp = (r.2.2.1, lo, r.2.2.1 + dp, hi) := rfl
    rw [e]
    refine ⟨⟨?_, ?_, ?_, ?_, ?_, ?_⟩, ⟨by decide, by decide⟩, ⟨h0, fun _ => ⟨?_, ?_⟩, fun c => absurd c (by decide)⟩, rfl⟩ <;> dsimp only <;> omega
  · obtain ⟨q1, q2⟩ := i2 (.inl rfl)
    have e : rNext r 1 lo hi dp = (lo, r.2.2.2, hi, r.2.2.2 + dp) := rfl
    rw [e]
    refine ⟨⟨?_, ?_, ?_, ?_, ?_, ?_⟩, ⟨by decide, by decide⟩, ⟨h0, fun c => absurd c (by decide), fun _ => ⟨?_, ?_⟩⟩, rfl⟩ <;> dsimp only <;> omega
  · obtain ⟨q1, q2⟩ := i1 (.inr rfl)
    have e : rNext r 2 lo hi dp = (r.1 - dp, lo, r.1, hi) := rfl
    rw [e]
    refine ⟨⟨?_, ?_, ?_, ?_, ?_, ?_⟩, ⟨by decide, by decide⟩, ⟨h0, fun _ => ⟨?_, ?_⟩, fun c => absurd c (by decide)⟩, rfl⟩ <;> dsimp only <;> omega
  · obtain ⟨q1, q2⟩ := i2 (.inr rfl)
    have e : rNext r 3 lo hi dp = (lo, r.2.1 - dp, hi, r.2.1) := rfl
    rw [e]
    refine ⟨⟨?_, ?_, ?_, ?_, ?_, ?_⟩, ⟨by decide, by decide⟩, ⟨h0, fun c => absurd c (by decide), fun _ => ⟨?_, ?_⟩⟩, rfl⟩ <;> dsimp only <;> omega
theorem pickI_t (row : List Int) (h : 0 < row.length) (hl : row.length ≤ 1000) (s : DS) : Tot (p_law_pick row s) fun r => r.1 ∈ row := by
  unfold p_law_pick
  refine Tot.draw (by omega) (by omega) fun v s2 h1 h2 => ?_
  obtain ⟨x, e1, e2⟩ := at_in (xs := row) (i := v) h1 h2
  exact Tot.of e2 ⟨_, rfl, List.mem_of_getElem? e1⟩
theorem pickP_t (row : List Pt) (h : 0 < row.length) (hl : row.length ≤ 1000) (s : DS) : Tot (p_law_pick_v1 row s) fun r => r.1 ∈ row := by
  unfold p_law_pick_v1
  refine Tot.draw (by omega) (by omega) fun v s2 h1 h2 => ?_
  obtain ⟨x, e1, e2⟩ := at_in (xs := row) (i := v) h1 h2
  exact Tot.of e2 ⟨_, rfl, List.mem_of_getElem? e1⟩
theorem point_t {r : Rc} {n : Int} (hr : RcOk r n) (hn : n ≤ 10000) (ends : Option Gt) (s : DS) : Tot (p_law_point r ends s) fun q => InR r q.1 ∨ ∃ g, ends = some g ∧ (q.1 = g.1 ∨ q.1 = g.2) := by
  obtain ⟨x, z, ra, rb, rc, rd⟩ := hr
  unfold p_law_point
  refine Tot.draw (by decide) (by decide) fun v s2 h1 h2 => ?_
  refine Tot.ite (fun hc => ?_) fun _ => ?_
  · rw [Bool.and_eq_true] at hc
    cases ends with
    | none => exact absurd hc.2 (by decide)
    | some g =>
      refine Tot.of (r := g) rfl (Tot.bind (pickP_t [g.1, g.2] (Nat.succ_pos _) (show 2 ≤ 1000 by decide) _) fun q hq => ⟨_, rfl, .inr ⟨g, rfl, by simpa using hq⟩⟩)
  · refine Tot.draw (by omega) (by omega) fun v1 s3 h3 h4 => ?_
    refine Tot.bind (pickI_t [r.1, r.2.2.1, r.1 + v1] (Nat.succ_pos _) (show 3 ≤ 1000 by decide) _) fun q1 hq1 => ?_
    refine Tot.draw (by omega) (by omega) fun v2 s4 h5 h6 => ?_
    refine Tot.bind (pickI_t [r.2.1, r.2.2.2, r.2.1 + v2] (Nat.succ_pos _) (show 3 ≤ 1000 by decide) _) fun q2 hq2 => ?_
    dsimp only at *
    simp only [List.mem_cons, List.not_mem_nil, or_false] at hq1 hq2
    refine Tot.ite (fun _ => ?_) fun _ => ?_
    · refine Tot.draw (by omega) (by omega) fun v3 s5 h7 h8 => ?_
      refine Tot.draw (by omega) (by omega) fun v4 s6 h9 h10 => ⟨_, rfl, .inl ?_⟩
      unfold InR
      dsimp only
      omega
    · refine ⟨_, rfl, .inl ?_⟩
      unfold InR
      dsimp only
      omega
theorem side_t {r : Rc} {n u : Int} (hr : RcOk r n) (hn : n ≤ 10000) (hs : s4 u) (used : Option (Int × Int × Int)) (s : DS) : Tot (p_law_side r u used s) fun q => ∀ a b, q.1 = some (a, b) → InS r u a b ∧ ∀ k a0 b0, used = some (k, a0, b0) → k = u → b0 ≤ a ∨ b ≤ a0 := by
  obtain ⟨x, z, ra, rb, rc, rd⟩ := hr
  unfold p_law_side
  refine Tot.of (mod_t (by decide)) ?_
  obtain ⟨lo, hi, e, hlo, hin⟩ : ∃ lo hi, Pl.at_ [(r.2.1, r.2.2.2), (r.1, r.2.2.1)] (u % 2) = some (lo, hi) ∧ (lo + 3 ≤ hi ∧ -10000 ≤ lo ∧ hi ≤ 10000) ∧ ∀ a b, lo ≤ a → b ≤ hi → a + 3 ≤ b → InS r u a b := by
    rcases s4_cases hs with rfl | rfl | rfl | rfl
    · exact ⟨_, _, rfl, ⟨z, by omega, by omega⟩, fun a b h1 h2 h3 => ⟨h3, fun _ => ⟨h1, h2⟩, fun c => absurd c (by decide)⟩⟩
    · exact ⟨_, _, rfl, ⟨x, by omega, by omega⟩, fun a b h1 h2 h3 => ⟨h3, fun c => absurd c (by decide), fun _ => ⟨h1, h2⟩⟩⟩
    · exact ⟨_, _, rfl, ⟨z, by omega, by omega⟩, fun a b h1 h2 h3 => ⟨h3, fun _ => ⟨h1, h2⟩, fun c => absurd c (by decide)⟩⟩
    · exact ⟨_, _, rfl, ⟨x, by omega, by omega⟩, fun a b h1 h2 h3 => ⟨h3, fun c => absurd c (by decide), fun _ => ⟨h1, h2⟩⟩⟩
  refine Tot.of e ?_
  refine Tot.draw (by dsimp only; omega) (by dsimp only; omega) fun v1 s2 h1 h2 => Tot.nm ?_
  dsimp only at h2 ⊢
  refine Tot.draw (by omega) (by omega) fun v2 s3 h3 h4 => Tot.nm ?_
  have hI := hin (lo + v1) (lo + v1 + 3 + v2) (by omega) (by omega) (by omega)
  cases used with
  | none =>
    refine Tot.of (r := false) rfl (Tot.iteF rfl ⟨_, rfl, fun a b hab => ?_⟩)
    cases hab
    exact ⟨hI, fun _ _ _ h => by cases h⟩
  | some w =>
    obtain ⟨k, a0, b0⟩ := w
    refine Tot.of (r := decide (k = u) && (decide (lo + v1 < b0) && decide (a0 < lo + v1 + 3 + v2))) ?_ (Tot.ite (fun _ => ⟨_, rfl, fun a b hab => by cases hab⟩) fun hc => ⟨_, rfl, fun a b hab => ?_⟩)
    · show Pl.andO true _ = _
      by_cases c1 : k = u
      · by_cases c2 : lo + v1 < b0
        · simp [Pl.andO, c1, c2]
        · simp [Pl.andO, c1, c2]
      · simp [Pl.andO, c1]
    · cases hab
      refine ⟨hI, fun k' a0' b0' h hk => ?_⟩
      cases h
      simp only [Bool.and_eq_false_iff, decide_eq_false_iff_not] at hc
      omega
theorem next_rect_t {r : Rc} {u a b : Int} (hs : s4 u) (s : DS) : Tot (p_law_next r u a b s) fun q => ∃ lo hi dp, q.1 = (gAt r u a b, rNext r u lo hi dp) ∧ (a - 5 ≤ lo ∧ lo ≤ a) ∧ (b ≤ hi ∧ hi ≤ b + 5) ∧ 3 ≤ dp ∧ dp ≤ 10 := by
  unfold p_law_next
  refine Tot.draw (by decide) (by decide) fun v1 s2 h1 h2 => Tot.nm ?_
  refine Tot.draw (by decide) (by decide) fun v2 s3 h3 h4 => Tot.nm ?_
  refine Tot.draw (by decide) (by decide) fun v3 s4 h5 h6 => Tot.nm ?_
  have main : ∀ q : (Gt × Rc) × DS, q.1 = (gAt r u a b, rNext r u (a - v1) (b + v2) (3 + v3)) → ∃ lo hi dp, q.1 = (gAt r u a b, rNext r u lo hi dp) ∧ (a - 5 ≤ lo ∧ lo ≤ a) ∧ (b ≤ hi ∧ hi ≤ b + 5) ∧ 3 ≤ dp ∧ dp ≤ 10 := fun q h => ⟨_, _, _, h, by omega, by omega, by omega, by omega⟩
  rcases s4_cases hs with rfl | rfl | rfl | rfl
  · exact ⟨_, rfl, main _ rfl⟩
  · exact ⟨_, rfl, main _ rfl⟩
  · exact ⟨_, rfl, main _ rfl⟩
  · exact ⟨_, rfl, main _ rfl⟩
structure CI (first : Rc) (k : Int) (gates : List Gt) (used : Option (Int × Int × Int)) (turn : Int) (r : Rc) : Prop where
  ro : RcOk r (12 + 10 * k)
  len : gates.length ≤ k
  t : s4 turn
  g : ∀ g ∈ gates, GOk g
  adj : ∀ (i : Nat) g g', gates[i]? = some g → gates[i + 1]? = some g' → Adj g g'
  nil : gates = [] → r = first ∧ used = none
  fst : ∀ g, gates[0]? = some g → ∃ s a b, s4 s ∧ InS first s a b ∧ g = gAt first s a b
  sm : ∀ g ∈ gates, bQ g.1 ∧ bQ g.2
  lst : ∀ g, gates.getLast? = some g → ∃ u a b, used = some (u, a, b) ∧ s4 u ∧ InS r u a b ∧ g = revG (gAt r u a b)
structure CorOk (s : Pt) (gates : List Gt) (e : Pt) : Prop where
  c : Cor gates
  n : gates.length ≤ 8
  sm : ∀ g ∈ gates, bQ g.1 ∧ bQ g.2
  bs : bP s
  be : bP e
  hs : ∀ g, gates[0]? = some g → sg g s ≤ 0
  he : ∀ g, gates.getLast? = some g → 0 ≤ sg g e
theorem InR.b {r : Rc} {n : Int} (hr : RcOk r n) (hn : n ≤ 10000) {p : Pt} (h : InR r p) : bP p := by
  obtain ⟨x, z, ra, rb, rc, rd⟩ := hr
  obtain ⟨h1, h2, h3, h4⟩ := h
  exact ⟨by unfold bN; omega, by unfold bN; omega⟩
theorem sg_end {g : Gt} {p : Pt} (h : p = g.1 ∨ p = g.2) : sg g p = 0 := by
  rcases h with h | h <;> rw [h]
  · exact sg_1 g
  · exact sg_2 g
theorem corridor_t {most : Int} (hm : 0 ≤ most ∧ most ≤ 8) (s : DS) : Tot (p_law_corridor most s) fun q => CorOk q.1.1 q.1.2.1 q.1.2.2 := by
  unfold p_law_corridor
  refine Tot.draw (by decide) (by decide) fun v1 s2 h1 h2 => ?_
  refine Tot.draw (by decide) (by decide) fun v2 s3 h3 h4 => Tot.nm ?_
  refine Tot.draw (by decide) (by decide) fun v3 s4' h5 h6 => ?_
  refine Tot.draw (by omega) (by omega) fun v4 s5 h7 h8 => ?_
  refine Tot.rngO ⟨by decide, by dsimp only; omega⟩ ?_
  dsimp only at *
  have r0 : RcOk (0, 0, 4 + v1, 4 + v2) 12 := ⟨by dsimp only; omega, by dsimp only; omega, by dsimp only; omega, by dsimp only; omega, by dsimp only; omega, by dsimp only; omega⟩
  refine Tot.forR (fun k (st : List Gt × Option (Int × Int × Int) × Int × Rc × DS) => CI (0, 0, 4 + v1, 4 + v2) k st.1 st.2.1 st.2.2.1 st.2.2.2.1) (by omega) ⟨r0, Int.le_refl _, ⟨h5, h6⟩, fun g hg => (by cases hg), fun i g g' h => by simp at h, fun _ => ⟨rfl, rfl⟩, fun g h => by simp at h, fun g hg => (by cases hg), fun g h => by simp at h⟩ ?_ ?_
  · rintro k ⟨gates, used, turn, r, ds⟩ hk1 hk2 ci
    dsimp only at ci
    refine Tot.bind (pickI_t [0, 0, 1, 1, 3, 2] (Nat.succ_pos _) (show 6 ≤ 1000 by decide) _) fun q hq => ?_
    have hq2 : 0 ≤ q.1 ∧ q.1 ≤ 3 := by simp at hq; omega
    refine Tot.draw (by decide) (by decide) fun w s6 w1 w2 => ?_
    refine Tot.of (mul64 (by omega) (by dsimp only; omega)) (Tot.of (mod_t (by decide)) ?_)
    dsimp only
    generalize hu : (turn + q.1 + 3 * w) % 4 = u
    have hu4 : s4 u := by unfold s4; omega
    have hn : (12 : Int) + 10 * k ≤ 10000 := by omega
    have len := ci.len
    refine Tot.bind (side_t ci.ro hn hu4 used s6) fun sd hsd => ?_
    obtain ⟨sd, s7⟩ := sd
    dsimp only at hsd ⊢
    cases sd with
    | none =>
      refine Tot.nm ⟨_, rfl, ?_⟩
      have R := ci.ro
      exact ⟨⟨R.x, R.z, by have := R.a; dsimp only; omega, by have := R.b; dsimp only; omega, by have := R.c; dsimp only; omega, by have := R.d; dsimp only; omega⟩, by dsimp only; omega, ci.t, ci.g, ci.adj, ci.nil, ci.fst, ci.sm, ci.lst⟩
    | some ab =>
      obtain ⟨a, b⟩ := ab
      obtain ⟨hin, hus⟩ := hsd a b rfl
      refine Tot.bind (Ψ := fun (j : Rc × List Gt × Option (Int × Int × Int) × Int × DS) => CI (0, 0, 4 + v1, 4 + v2) (k + 1) j.2.1 j.2.2.1 j.2.2.2.1 j.1) ?_ fun j hj => ⟨_, rfl, hj⟩
      refine Tot.iteT rfl (Tot.of (r := (a, b)) rfl (Tot.of (r := (a, b)) rfl (Tot.bind (next_rect_t hu4 s7) fun nr hnr => ?_)))
      obtain ⟨⟨g, r'⟩, s8⟩ := nr
      obtain ⟨lo, hi, dp, e, l1, l2, l3, l4⟩ := hnr
      dsimp only at e
      obtain ⟨n1, n2, n3, n4⟩ := next_ok ci.ro hu4 hin l1 l2 ⟨l3, l4⟩
      injection e with e1 e2
      have gk := gAt_ok ci.ro hn hu4 hin
      refine Tot.of (app_t (by unfold szl; omega)) (Tot.of (mod_t (by decide)) (Tot.of (r := (a, b)) rfl (Tot.of (r := (a, b)) rfl (Tot.nm ⟨_, rfl, ?_⟩))))
      try dsimp only
      subst e1
      subst e2
      refine ⟨?_, ?_, hu4, ?_, ?_, fun h => by simp at h, ?_, ?_, ?_⟩
      · rw [show (12 : Int) + 10 * (k + 1) = 12 + 10 * k + 10 by omega]
        exact n1
      · rw [List.length_append, List.length_singleton]
        omega
      · intro g hg
        rcases List.mem_append.mp hg with h | h
        · exact ci.g g h
        · rw [List.mem_singleton.mp h]; exact gk
      · intro i x y hx hy
        by_cases c : i + 1 < gates.length
        · rw [List.getElem?_append_left (by omega)] at hx
          rw [List.getElem?_append_left c] at hy
          exact ci.adj i x y hx hy
        · rw [List.getElem?_append_right (by omega)] at hy
          have c2 : i + 1 = gates.length := by
            have := (List.getElem?_eq_some_iff.mp hy).1
            rw [List.length_singleton] at this
            omega
          rw [show i + 1 - gates.length = 0 by omega] at hy
          cases hy
          rw [List.getElem?_append_left (by omega)] at hx
          obtain ⟨u0, a0, b0, f1, f2, f3, f4⟩ := ci.lst x (by rw [List.getLast?_eq_getElem?, show gates.length - 1 = i by omega]; exact hx)
          rw [f4]
          exact adj_rect ci.ro hu4 f2 f3 hin fun hc => hus u0 a0 b0 f1 hc
      · intro x hx
        cases gates with
        | nil =>
          cases hx
          obtain ⟨q1, q2⟩ := ci.nil rfl
          rw [← q1]
          exact ⟨u, a, b, hu4, hin, rfl⟩
        | cons y ys => exact ci.fst x hx
      · intro x hx
        rcases List.mem_append.mp hx with h | h
        · exact ci.sm x h
        · rw [List.mem_singleton.mp h]; exact gAt_sm ci.ro (by omega) hu4 hin
      · intro x hx
        rw [List.getLast?_append] at hx
        cases hx
        exact ⟨_, a, b, rfl, n2, n3, n4⟩
  · rintro ⟨gates, used, turn, r, ds⟩ ci
    dsimp only at ci ⊢
    have len := ci.len
    have hn : (12 : Int) + 10 * v4 ≤ 10000 := by omega
    have cor : Cor gates := ⟨ci.g, by omega, ci.adj⟩
    by_cases hg : gates = []
    · refine Tot.iteT (decide_eq_true (by rw [hg]; rfl)) ?_
      refine Tot.bind (point_t r0 (by decide) none ds) fun p hp => Tot.bind (point_t r0 (by decide) none p.2) fun p' hp' => ⟨_, rfl, ?_⟩
      have i1 : InR (0, 0, 4 + v1, 4 + v2) p.1 := by
        rcases hp with h | ⟨g, h, _⟩
        · exact h
        · cases h
      have i2 : InR (0, 0, 4 + v1, 4 + v2) p'.1 := by
        rcases hp' with h | ⟨g, h, _⟩
        · exact h
        · cases h
      exact ⟨cor, by dsimp only; omega, ci.sm, i1.b r0 (by decide), i2.b r0 (by decide), fun g h => by dsimp only at h; rw [hg] at h; simp at h, fun g h => by dsimp only at h; rw [hg] at h; simp at h⟩
    · have hl : 0 < gates.length := List.length_pos_iff.mpr hg
      refine Tot.iteF (decide_eq_false (by omega)) ?_
      obtain ⟨g0, e1, e2⟩ := at_in (xs := gates) (i := 0) (by omega) (by omega)
      obtain ⟨g9, f1, f2⟩ := at_in (xs := gates) (i := (gates.length : Int) - 1) (by omega) (by omega)
      have f1' : gates.getLast? = some g9 := by
        rw [List.getLast?_eq_getElem?, show gates.length - 1 = ((gates.length : Int) - 1).toNat by omega]
        exact f1
      refine Tot.of e2 (Tot.bind (point_t r0 (by decide) (some g0) ds) fun p hp => ?_)
      refine Tot.of f2 (Tot.bind (point_t ci.ro hn (some g9) p.2) fun p' hp' => ⟨_, rfl, ?_⟩)
      have k0 := ci.g g0 (List.mem_of_getElem? e1)
      have k9 := ci.g g9 (List.mem_of_getElem? f1)
      have eb : ∀ {g : Gt} {x : Pt}, GOk g → (x = g.1 ∨ x = g.2) → bP x := fun hg h => by
        rcases h with h | h <;> rw [h]
        · exact hg.1.1
        · exact hg.1.2
      refine ⟨cor, by dsimp only; omega, ci.sm, ?_, ?_, fun g h => ?_, fun g h => ?_⟩
      · rcases hp with h | ⟨g, h, h'⟩
        · exact h.b r0 (by decide)
        · cases h; exact eb k0 h'
      · rcases hp' with h | ⟨g, h, h'⟩
        · exact h.b ci.ro hn
        · cases h; exact eb k9 h'
      · dsimp only at h ⊢
        rw [show (0 : Int).toNat = 0 from rfl, h] at e1
        cases e1
        rcases hp with h' | ⟨g', h', h2⟩
        · obtain ⟨s, a, b, q1, q2, q3⟩ := ci.fst _ h
          rw [q3, sg_gAt q1]
          have := Int.mul_nonneg (show 0 ≤ b - a - 2 by have := q2.1; omega) (show 0 ≤ -Dd (0, 0, 4 + v1, 4 + v2) s p.1 by have := Dd_in q1 h'; omega)
          rw [Int.mul_neg] at this
          omega
        · cases h'
          exact Int.le_of_eq (sg_end h2)
      · dsimp only at h ⊢
        rw [h] at f1'
        cases f1'
        rcases hp' with h' | ⟨g', h', h2⟩
        · obtain ⟨u, a, b, _, q1, q2, q3⟩ := ci.lst _ h
          rw [q3, sg_rev, sg_gAt q1]
          have := Int.mul_nonneg (show 0 ≤ b - a - 2 by have := q2.1; omega) (show 0 ≤ -Dd r u p'.1 by have := Dd_in q1 h'; omega)
          rw [Int.mul_neg] at this
          omega
        · cases h'
          exact Int.le_of_eq (sg_end h2).symm
end W
set_option Elab.async false
set_option linter.all false
set_option maxRecDepth 100000
set_option maxHeartbeats 2000000
namespace W
open PySem L2 Mi
abbrev QP := Rat × Rat
def gq (g : Gt) (t : Rat) : QP := ((g.1.1 : Rat) + t * ((g.2.1 : Rat) - g.1.1), (g.1.2 : Rat) + t * ((g.2.2 : Rat) - g.1.2))
def si (ε : Bool) (x : Rat) : Rat := if ε = true then x else -x
theorem mul_nn {x y : Rat} (hx : 0 ≤ x) (hy : 0 ≤ y) : 0 ≤ x * y := Rat.mul_nonneg hx hy
theorem nn_mul {k x : Rat} (hk : 0 < k) (h : 0 ≤ k * x) : 0 ≤ x := by
  rcases Rat.le_total (a := 0) (b := x) with c | c
  · exact c
  · have := mul_nn (Rat.le_of_lt hk) (show 0 ≤ -x by grind)
    have e : k * x = 0 := by grind
    rcases Rat.mul_eq_zero.mp e with e | e <;> grind
theorem mul_z {k x : Rat} (hk : 0 < k) (h : k * x = 0) : x = 0 := by
  rcases Rat.mul_eq_zero.mp h with e | e
  · grind
  · exact e
theorem lt_or (x y : Rat) : x < y ∨ y ≤ x := by
  rcases Rat.le_total (a := y) (b := x) with c | c
  · exact .inr c
  · by_cases h : x = y
    · exact .inr (by rw [h]; exact Rat.le_refl)
    · exact .inl (by grind)
end W
set_option Elab.async false
set_option linter.all false
set_option maxRecDepth 100000
set_option maxHeartbeats 2000000
namespace W
open PySem L2 Mi
def isqN : Nat → Nat
  | 0 => 0
  | n + 1 => if (isqN n + 1) * (isqN n + 1) ≤ n + 1 then isqN n + 1 else isqN n
structure Rt (n r : Int) : Prop where
  z : 0 ≤ r
  lo : r * r ≤ n
  hi : n < (r + 1) * (r + 1)
def isq (n : Int) : Int := (isqN n.toNat : Int)
theorem isqN_rt : ∀ n : Nat, isqN n * isqN n ≤ n ∧ n < (isqN n + 1) * (isqN n + 1)
  | 0 => ⟨Nat.le_refl _, by decide⟩
  | n + 1 => by
    obtain ⟨h1, h2⟩ := isqN_rt n
    rw [isqN]
    split
    · rename_i c
      exact ⟨c, by grind⟩
    · exact ⟨by omega, by omega⟩
theorem isq_rt {n : Int} (h : 0 ≤ n) : Rt n (isq n) := by
  obtain ⟨h1, h2⟩ := isqN_rt n.toNat
  unfold isq
  generalize isqN n.toNat = r at h1 h2
  refine ⟨by omega, ?_, ?_⟩
  · have : ((r * r : Nat) : Int) ≤ (n.toNat : Int) := by exact_mod_cast h1
    push_cast at this
    omega
  · have : (n.toNat : Int) < (((r + 1) * (r + 1) : Nat) : Int) := by exact_mod_cast h2
    push_cast at this
    omega
theorem sq_lt {x y : Int} (hx : 0 ≤ x) (hy : 0 ≤ y) (h : x * x < y * y) : x < y := by
  rcases Int.lt_or_le x y with c | c
  · exact c
  · have := Int.mul_le_mul c c hy hx
    omega
theorem Rt.uq {n r r' : Int} (h : Rt n r) (h' : Rt n r') : r = r' := by
  have h1 := h.z; have h2 := h'.z
  have a := sq_lt (x := r) (y := r' + 1) (by omega) (by omega) (by have := h.lo; have := h'.hi; omega)
  have b := sq_lt (x := r') (y := r + 1) (by omega) (by omega) (by have := h'.lo; have := h.hi; omega)
  omega
theorem Rt.is {n r : Int} (h : Rt n r) : isq n = r := Rt.uq (isq_rt (Int.le_trans (Int.mul_nonneg h.z h.z) h.lo)) h
structure Nm (ε N r : Rat) : Prop where
  le : N ≤ r * r
  ge : (r - ε) * (r - ε) ≤ N
  one : 1 ≤ r
theorem sq_ltR {x y : Rat} (hy : 0 ≤ y) (h : x < y) (hx : 0 ≤ x) : x * x < y * y := by
  have a := mul_nn hx (show 0 ≤ y - x by grind)
  have b := Rat.mul_pos (show 0 < y by grind) (show 0 < y - x by grind)
  grind
theorem sqnR (x : Rat) : 0 ≤ x * x := by
  rcases Rat.le_total (a := 0) (b := x) with c | c
  · exact mul_nn c c
  · have := mul_nn (show 0 ≤ -x by grind) (show 0 ≤ -x by grind)
    grind
/-- one side of a hold -/
theorem hold_s {ε G C Na Nb a b p q K : Rat} (e0 : 0 ≤ ε) (e1 : ε ≤ 1) (ha : Nm ε Na a) (hb : Nm ε Nb b) (hC : 0 ≤ C) (hG : 0 ≤ G) (hK : G ≤ K) (hp : p * a = C) (hq : q * b = G) (h : G * G * Na ≤ C * C * Nb) : q ≤ p + K * ε := by
  have a1 := ha.one; have b1 := hb.one
  have q0 : 0 ≤ q := nn_mul (k := b) (by grind) (by grind)
  have k : G * (a - ε) ≤ C * b := by
    rcases lt_or (C * b) (G * (a - ε)) with c | c
    · exfalso
      have s := sq_ltR (mul_nn hG (show 0 ≤ a - ε by grind)) c (mul_nn hC (show 0 ≤ b by grind))
      have t1 := mul_nn (sqnR G) (show 0 ≤ Na - (a - ε) * (a - ε) by have := ha.ge; grind)
      have t2 := mul_nn (sqnR C) (show 0 ≤ b * b - Nb by have := hb.le; grind)
      grind
    · exact c
  have k2 : q * (a - ε) ≤ p * a := by
    have e : b * (p * a - q * (a - ε)) = C * b - G * (a - ε) := by rw [← hp, ← hq]; grind
    have : 0 ≤ b * (p * a - q * (a - ε)) := by rw [e]; grind
    have := nn_mul (k := b) (by grind) this
    grind
  have qK : q ≤ K := by
    have := mul_nn q0 (show 0 ≤ b - 1 by grind)
    grind
  have f := mul_nn (show 0 ≤ K - q by grind) e0
  have k3 : (q - p) * a ≤ K * ε := by grind
  rcases lt_or (p + K * ε) q with c | c
  · exfalso
    have K0 : 0 ≤ K * ε := mul_nn (by grind) e0
    have := mul_nn (show 0 ≤ q - p by grind) (show 0 ≤ a - 1 by grind)
    grind
  · exact c
theorem hold_r {C G Na Nb : Int} {ε a b p q K : Rat} (e0 : 0 ≤ ε) (e1 : ε ≤ 1) (ha : Nm ε (Na : Rat) a) (hb : Nm ε (Nb : Rat) b) (nb : 0 < Nb) (na : 0 < Na) (hC : -(C : Rat) ≤ K) (hG : (G : Rat) ≤ K) (hK : 0 ≤ K) (hp : p * a = (C : Rat)) (hq : q * b = (G : Rat)) (h : G * ab G * Na ≤ C * ab C * Nb) : q ≤ p + K * ε := by
  have a1 := ha.one; have b1 := hb.one
  rcases Int.lt_or_le C 0 with hC0 | hC0
  · rw [ab_np (i := C) (by omega)] at h
    have cp := Int.mul_pos (Int.mul_pos (show 0 < -C by omega) (show 0 < -C by omega)) nb
    rcases Int.lt_or_le G 0 with hG0 | hG0
    · rw [ab_np (i := G) (by omega)] at h
      have h2 : (-(C : Rat)) * (-(C : Rat)) * Nb ≤ (-(G : Rat)) * (-(G : Rat)) * Na := by
        have : (-C) * (-C) * Nb ≤ (-G) * (-G) * Na := by grind
        exact_mod_cast this
      have g0 : (0 : Rat) ≤ -(G : Rat) := by have : (0 : Rat) ≤ ((-G : Int) : Rat) := by exact_mod_cast (show 0 ≤ -G by omega)
                                             push_cast at this; exact this
      have c0 : (0 : Rat) ≤ -(C : Rat) := by have : (0 : Rat) ≤ ((-C : Int) : Rat) := by exact_mod_cast (show 0 ≤ -C by omega)
                                             push_cast at this; exact this
      have := hold_s (p := -q) (q := -p) e0 e1 hb ha g0 c0 hC (by grind) (by grind) h2
      grind
    · exfalso
      rw [ab_pos hG0] at h
      have := Int.mul_nonneg (Int.mul_nonneg hG0 hG0) (Int.le_of_lt na)
      grind
  · rw [ab_pos hC0] at h
    have c0 : (0 : Rat) ≤ (C : Rat) := by exact_mod_cast hC0
    have p0 : 0 ≤ p := nn_mul (k := a) (by grind) (by grind)
    rcases Int.lt_or_le G 0 with hG0 | hG0
    · have g0 : (0 : Rat) ≤ -(G : Rat) := by have : (0 : Rat) ≤ ((-G : Int) : Rat) := by exact_mod_cast (show 0 ≤ -G by omega)
                                             push_cast at this; exact this
      have := nn_mul (k := b) (x := -q) (by grind) (by grind)
      have := mul_nn hK e0
      grind
    · rw [ab_pos hG0] at h
      exact hold_s e0 e1 ha hb c0 (by exact_mod_cast hG0) hG hp hq (by exact_mod_cast h)
def Fl (l : Pt → Pt → Rat) : Pt → List Pt → Rat
  | _, [] => 0
  | z, y :: ys => l z y + Fl l y ys
theorem Fl.app {l : Pt → Pt → Rat} : ∀ (xs : List Pt) (z y : Pt) (ys : List Pt), Fl l z (xs ++ y :: ys) = Fl l z (xs ++ [y]) + Fl l y ys
  | [], z, y, ys => by
    show l z y + Fl l y ys = (l z y + 0) + Fl l y ys
    grind
  | x :: xs, z, y, ys => by
    show l z x + Fl l x (xs ++ y :: ys) = (l z x + Fl l x (xs ++ [y])) + Fl l y ys
    rw [Fl.app xs x y ys]
    grind
def Up (l : Pt → Pt → Rat) : Prop := ∀ (z y : Pt) (u : QP), u.1 * u.1 + u.2 * u.2 ≤ 1 → u.1 * ((y.1 : Rat) - z.1) + u.2 * ((y.2 : Rat) - z.2) ≤ l z y
theorem Fl.up {l : Pt → Pt → Rat} (h : Up l) {u : QP} (hu : u.1 * u.1 + u.2 * u.2 ≤ 1) : ∀ (xs : List Pt) (z y : Pt), u.1 * ((y.1 : Rat) - z.1) + u.2 * ((y.2 : Rat) - z.2) ≤ Fl l z (xs ++ [y])
  | [], z, y => by
    have := h z y u hu
    show _ ≤ l z y + 0
    grind
  | x :: xs, z, y => by
    have a := h z x u hu
    have b := Fl.up h hu xs x y
    show _ ≤ l z x + Fl l x (xs ++ [y])
    grind
def OnZ (g : Gt) (z : Pt) : Prop := ∃ t : Rat, 0 ≤ t ∧ t ≤ 1 ∧ (z.1 : Rat) = 2 * (gq g t).1 ∧ (z.2 : Rat) = 2 * (gq g t).2
def Vl (ρ : Pt → Pt → Rat) : Pt → List Pt → Rat
  | _, [] => 0
  | a, q :: qs => ((sq a q : Int) : Rat) / ρ a q + Vl ρ q qs
/-- the way from an end of a gate farther inside -/
theorem onz_in {g : Gt} {q z : Pt} (hg : GOk g) (hq : q = g.1 ∨ q = g.2) (h : OnZ g z) : ∃ t : Rat, 0 ≤ t ∧ t ≤ 1 ∧ (z.1 : Rat) - 2 * q.1 = 2 * t * (((inner q g).1 : Rat) - q.1) ∧ (z.2 : Rat) - 2 * q.2 = 2 * t * (((inner q g).2 : Rat) - q.2) := by
  obtain ⟨t, t0, t1, h1, h2⟩ := h
  unfold gq at h1 h2
  dsimp only at h1 h2
  rcases hq with rfl | rfl
  · rw [inner_1]
    exact ⟨t, t0, t1, by grind, by grind⟩
  · rw [inner_2 hg]
    exact ⟨1 - t, by grind, by grind, by grind, by grind⟩
theorem sq_pos' {a b : Pt} (h : a ≠ b) : 0 < sq a b := by
  have h1 := sqn (a.1 - b.1)
  have h2 := sqn (a.2 - b.2)
  rcases Int.lt_or_le 0 (sq a b) with c | c
  · exact c
  · exfalso
    unfold sq at c
    have e1 : (a.1 - b.1) * (a.1 - b.1) = 0 := by omega
    have e2 : (a.2 - b.2) * (a.2 - b.2) = 0 := by omega
    rw [Int.mul_eq_zero] at e1 e2
    exact h (Prod.ext (by omega) (by omega))
section
variable {gates : List Gt} {e : Pt} {l : Pt → Pt → Rat} {ρ : Pt → Pt → Rat} {ε : Rat}
def dirR (ρ : Pt → Pt → Rat) (a q : Pt) : QP := (((q.1 : Rat) - a.1) / ρ a q, ((q.2 : Rat) - a.2) / ρ a q)
def NmA (ε : Rat) (ρ : Pt → Pt → Rat) : Prop := ∀ a q : Pt, a ≠ q → Nm ε ((sq a q : Int) : Rat) (ρ a q)
theorem div_mulc {x r : Rat} (h : 1 ≤ r) : x / r * r = x := by
  have : r ≠ 0 := by grind
  grind
theorem dir_le (n : NmA ε ρ) {a q : Pt} (h : a ≠ q) : (dirR ρ a q).1 * (dirR ρ a q).1 + (dirR ρ a q).2 * (dirR ρ a q).2 ≤ 1 := by
  have m := n a q h
  unfold dirR
  dsimp only
  have o := m.one
  have e1 := div_mulc (x := (q.1 : Rat) - a.1) o
  have e2 := div_mulc (x := (q.2 : Rat) - a.2) o
  generalize ((q.1 : Rat) - a.1) / ρ a q = u at e1 ⊢
  generalize ((q.2 : Rat) - a.2) / ρ a q = v at e2 ⊢
  have k : (u * u + v * v) * (ρ a q * ρ a q) ≤ ρ a q * ρ a q := by
    have hle := m.le
    have es : ((sq a q : Int) : Rat) = ((q.1 : Rat) - a.1) * ((q.1 : Rat) - a.1) + ((q.2 : Rat) - a.2) * ((q.2 : Rat) - a.2) := by unfold sq; push_cast; grind
    rw [es, ← e1, ← e2] at hle
    grind
  rcases lt_or 1 (u * u + v * v) with c | c
  · exfalso
    have := Rat.mul_pos (show 0 < u * u + v * v - 1 by grind) (Rat.mul_pos (show 0 < ρ a q by grind) (show 0 < ρ a q by grind))
    grind
  · exact c
theorem dir_dt (n : NmA ε ρ) {a q : Pt} (h : a ≠ q) (x y : Pt) : ((dirR ρ a q).1 * ((y.1 : Rat) - x.1) + (dirR ρ a q).2 * ((y.2 : Rat) - x.2)) * ρ a q = ((dt a q x y : Int) : Rat) := by
  have o := (n a q h).one
  unfold dirR dt
  dsimp only
  have e1 := div_mulc (x := (q.1 : Rat) - a.1) o
  have e2 := div_mulc (x := (q.2 : Rat) - a.2) o
  push_cast
  generalize ((q.1 : Rat) - a.1) / ρ a q = u at e1 ⊢
  generalize ((q.2 : Rat) - a.2) / ρ a q = v at e2 ⊢
  rw [← e1, ← e2]
  grind
/-- a leg against itself -/
theorem dir_self (n : NmA ε ρ) {a q : Pt} (h : a ≠ q) : (dirR ρ a q).1 * ((q.1 : Rat) - a.1) + (dirR ρ a q).2 * ((q.2 : Rat) - a.2) = ((sq a q : Int) : Rat) / ρ a q := by
  have o := (n a q h).one
  have d := dir_dt n h a q
  have es : dt a q a q = sq a q := by unfold dt sq; grind
  rw [es] at d
  have e1 := div_mulc (x := ((sq a q : Int) : Rat)) o
  have := mul_z (k := ρ a q) (x := (dirR ρ a q).1 * ((q.1 : Rat) - a.1) + (dirR ρ a q).2 * ((q.2 : Rat) - a.2) - ((sq a q : Int) : Rat) / ρ a q) (by grind) (by grind)
  grind
theorem neg_c {i K : Int} (h : -K ≤ i) : -(i : Rat) ≤ (K : Rat) := by
  have : ((-i : Int) : Rat) ≤ (K : Rat) := by exact_mod_cast (show -i ≤ K by omega)
  rw [Rat.intCast_neg] at this
  exact this
theorem pos_c {i K : Int} (h : i ≤ K) : (i : Rat) ≤ (K : Rat) := by exact_mod_cast h
theorem min_r {K : Int} (hK : K = 800000000) (n : NmA ε ρ) (up : Up l) (e0 : 0 ≤ ε) (e1 : ε ≤ 1) (hG : ∀ g ∈ gates, GOk g) (he : bP e) : ∀ (ks : List Pt) (ls : List Int) (A : Pt) (c : Nat) (zs : List Pt) (z0 : Pt), bP A → RawG gates e true A c ks ls → c + zs.length = gates.length → (∀ (i : Nat) z g, zs[i]? = some z → gates[c + i]? = some g → OnZ g z) →
    ∃ q r, ks = q :: r ∧ bP q ∧ A ≠ q ∧ 2 * Vl ρ A ks - ((dirR ρ A q).1 * ((z0.1 : Rat) - 2 * A.1) + (dirR ρ A q).2 * ((z0.2 : Rat) - 2 * A.2)) - 2 * (K : Rat) * ε * (ls.length : Nat) ≤ Fl l z0 (zs ++ [(2 * e.1, 2 * e.2)])
  | [], _, _, _, _, _, _, h, _, _ => h.elim
  | [q], ls, A, c, zs, z0, _, h, hl, hz => by
    obtain ⟨h1, h2, h3, h4⟩ := h
    rw [h4 rfl]
    subst h3
    refine ⟨q, [], rfl, he, h2, ?_⟩
    have a := Fl.up up (dir_le n h2) zs z0 (2 * q.1, 2 * q.2)
    have b := dir_self n h2
    show 2 * (((sq A q : Int) : Rat) / ρ A q + 0) - _ - _ ≤ _
    rw [← b, List.length_nil]
    dsimp only at a
    push_cast at a ⊢
    generalize (dirR ρ A q).1 = ux at *
    generalize (dirR ρ A q).2 = uz at *
    grind
  | q :: q' :: r, [], _, _, _, _, _, h, _, _ => h.elim
  | q :: q' :: r, b :: ls, A, c, zs, z0, hA, h, hl, hz => by
    obtain ⟨bN, g, h1, h2, h3, h4, h5, h6, h7, h8, h9⟩ := h
    have hb := (List.getElem?_eq_some_iff.mp h2).1
    have gk := hG g (List.mem_of_getElem? h2)
    have bq : bP q := by rcases h3 with h | h <;> rw [h]; exact gk.1.1; exact gk.1.2
    have hj : bN - c < zs.length := by omega
    have ez : zs = zs.take (bN - c) ++ zs[bN - c] :: zs.drop (bN - c + 1) := by
      rw [List.getElem_cons_drop, List.take_append_drop]
    have oz := hz (bN - c) _ g (List.getElem?_eq_getElem hj) (by rw [show c + (bN - c) = bN by omega]; exact h2)
    obtain ⟨q2, r2, e2, bq2, hne2, ih⟩ := min_r hK n up e0 e1 hG he (q' :: r) ls q (bN + 1) (zs.drop (bN - c + 1)) zs[bN - c] bq h9 (by rw [List.length_drop]; omega) fun i z g' hi hg' => by
      rw [List.getElem?_drop] at hi
      refine hz (bN - c + 1 + i) z g' hi ?_
      rw [show c + (bN - c + 1 + i) = bN + 1 + i by omega]
      exact hg'
    injection e2 with e2 e2'
    subst e2
    generalize zs[bN - c] = zq at ez oz ih
    refine ⟨q, q' :: r, rfl, bq, h6, ?_⟩
    have a := Fl.up up (dir_le n h6) (zs.take (bN - c)) z0 zq
    rw [ez, List.append_assoc, List.cons_append, Fl.app]
    have hh := of_decide_eq_true (h7.hold gk)
    obtain ⟨t, t0, t1, f1, f2⟩ := onz_in gk h3 oz
    have bi : bP (inner q g) := by unfold inner; split; exact gk.1.2; exact gk.1.1
    have d1 := dt_bd hA bq bq bi
    have d2 := dt_bd bq bq2 bq bi
    have hr := hold_r (K := (K : Rat)) e0 e1 (n A q h6) (n q q' hne2) (sq_pos' hne2) (sq_pos' h6) (neg_c (by omega)) (pos_c (by omega)) (pos_c (i := 0) (by omega)) (dir_dt n h6 q (inner q g)) (dir_dt n hne2 q (inner q g)) hh
    have self := dir_self n h6
    show 2 * (((sq A q : Int) : Rat) / ρ A q + Vl ρ q (q' :: r)) - _ - _ ≤ _
    rw [← self]
    have m := mul_nn (show 0 ≤ 2 * t by grind) (show 0 ≤ ((dirR ρ A q).1 * (((inner q g).1 : Rat) - q.1) + (dirR ρ A q).2 * (((inner q g).2 : Rat) - q.2)) + (K : Rat) * ε - ((dirR ρ q q').1 * (((inner q g).1 : Rat) - q.1) + (dirR ρ q q').2 * (((inner q g).2 : Rat) - q.2)) by grind)
    have k0 : (0 : Rat) ≤ (K : Rat) := pos_c (i := 0) (by omega)
    have m2 := mul_nn (show 0 ≤ 1 - t by grind) (mul_nn k0 e0)
    rw [List.length_cons]
    push_cast
    generalize (K : Rat) = KR at *
    generalize (dirR ρ A q).1 = ux at *
    generalize (dirR ρ A q).2 = uz at *
    generalize (dirR ρ q q').1 = wx at *
    generalize (dirR ρ q q').2 = wz at *
    have i1 : ux * ((zq.1 : Rat) - 2 * q.1) + uz * ((zq.2 : Rat) - 2 * q.2) - (wx * ((zq.1 : Rat) - 2 * q.1) + wz * ((zq.2 : Rat) - 2 * q.2)) = 2 * t * ((ux * (((inner q g).1 : Rat) - q.1) + uz * (((inner q g).2 : Rat) - q.2)) - (wx * (((inner q g).1 : Rat) - q.1) + wz * (((inner q g).2 : Rat) - q.2))) := by
      rw [f1, f2]
      grind
    grind
end
def lgs (S : Int) : Pt → List Pt → Int
  | _, [] => 0
  | z, y :: ys => isq (sq z y * S * S) + lgs S y ys
theorem cast_lt {i j : Int} (h : i < j) : (i : Rat) < (j : Rat) := by exact_mod_cast h
theorem cast_le {i j : Int} (h : i ≤ j) : (i : Rat) ≤ (j : Rat) := by exact_mod_cast h
theorem cast_pos {i : Int} (h : 0 < i) : (0 : Rat) < (i : Rat) := cast_lt h
theorem cast_nn {i : Int} (h : 0 ≤ i) : (0 : Rat) ≤ (i : Rat) := cast_le h
theorem sqR (a b : Pt) : ((sq a b : Int) : Rat) = ((b.1 : Rat) - a.1) * ((b.1 : Rat) - a.1) + ((b.2 : Rat) - a.2) * ((b.2 : Rat) - a.2) := by unfold sq; push_cast; grind
theorem sq_nn (a b : Pt) : 0 ≤ sq a b := by
  have h1 := sqn (a.1 - b.1)
  have h2 := sqn (a.2 - b.2)
  unfold sq
  omega
def lS (S : Int) (z y : Pt) : Rat := ((isq (sq z y * S * S) : Rat) + 1) / (S : Rat)
theorem root_c {N S : Int} (hN : 0 ≤ N) (hS : 0 < S) : (0 : Rat) ≤ (isq (N * S * S) : Rat) ∧ (isq (N * S * S) : Rat) * (isq (N * S * S) : Rat) ≤ (N : Rat) * ((S : Rat) * S) ∧ (N : Rat) * ((S : Rat) * S) < ((isq (N * S * S) : Rat) + 1) * ((isq (N * S * S) : Rat) + 1) := by
  have r := isq_rt (n := N * S * S) (Int.mul_nonneg (Int.mul_nonneg hN (by omega)) (by omega))
  have h1 := cast_le r.lo
  have h2 := cast_lt r.hi
  rw [Rat.intCast_mul, Rat.intCast_mul, Rat.intCast_mul] at h1
  rw [Rat.intCast_mul, Rat.intCast_mul, Rat.intCast_mul, Rat.intCast_add] at h2
  refine ⟨cast_nn r.z, by grind, ?_⟩
  have e : (((1 : Int)) : Rat) = 1 := rfl
  rw [e] at h2
  grind
theorem sqrt_le {x y : Rat} (hy : 0 ≤ y) (h : x * x ≤ y * y) : x ≤ y := by
  rcases lt_or y x with c | c
  · exfalso
    have := sq_ltR (x := y) (y := x) (by grind) c hy
    grind
  · exact c
theorem lS_up {S : Int} (hS : 0 < S) : Up (lS S) := by
  intro z y u hu
  obtain ⟨h0, h1, h2⟩ := root_c (sq_nn z y) hS
  have sp := cast_pos hS
  unfold lS
  have e := sqR z y
  rw [e] at h2
  generalize (isq (sq z y * S * S) : Rat) = a at *
  generalize (S : Rat) = s at *
  generalize (y.1 : Rat) - z.1 = dx at *
  generalize (y.2 : Rat) - z.2 = dz at *
  have k : (u.1 * dx + u.2 * dz) * s ≤ a + 1 := by
    refine sqrt_le (by grind) ?_
    have c := mul_nn (show 0 ≤ 1 - (u.1 * u.1 + u.2 * u.2) by grind) (mul_nn (show 0 ≤ dx * dx + dz * dz by have := sqnR dx; have := sqnR dz; grind) (sqnR s))
    have d := mul_nn (sqnR (u.1 * dz - u.2 * dx)) (sqnR s)
    grind
  have e2 : (a + 1) / s * s = a + 1 := by grind
  have := nn_mul (k := s) (x := (a + 1) / s - (u.1 * dx + u.2 * dz)) sp (by grind)
  grind
theorem lS_sum {S : Int} (hS : 0 < S) : ∀ (ys : List Pt) (z : Pt), (S : Rat) * Fl (lS S) z ys = ((lgs S z ys : Int) : Rat) + ((ys.length : Int) : Rat)
  | [], z => by
    show (S : Rat) * 0 = ((0 : Int) : Rat) + ((0 : Int) : Rat)
    rw [show ((0 : Int) : Rat) = 0 from rfl]
    grind
  | y :: ys, z => by
    have ih := lS_sum hS ys y
    have sp := cast_pos hS
    show (S : Rat) * (lS S z y + Fl (lS S) y ys) = ((isq (sq z y * S * S) + lgs S y ys : Int) : Rat) + (((y :: ys).length : Int) : Rat)
    rw [Rat.intCast_add, List.length_cons, Int.natCast_add, Rat.intCast_add, show (((1 : Nat) : Int) : Rat) = 1 from rfl]
    have e2 : (S : Rat) * lS S z y = (isq (sq z y * S * S) : Rat) + 1 := by unfold lS; grind
    grind
def rS (M : Int) (a q : Pt) : Rat := ((isq (sq a q * M * M) : Rat) + 1) / (M : Rat)
theorem rS_nm {M : Int} (hM : 0 < M) : NmA (1 / (M : Rat)) (rS M) := by
  intro a q h
  obtain ⟨h0, h1, h2⟩ := root_c (sq_nn a q) hM
  have sp := cast_pos hM
  have n1 : (1 : Rat) ≤ ((sq a q : Int) : Rat) := cast_le (i := 1) (by have := sq_pos' h; omega)
  unfold rS
  generalize (isq (sq a q * M * M) : Rat) = c at *
  generalize ((sq a q : Int) : Rat) = N at *
  generalize (M : Rat) = m at *
  have e1 : (c + 1) / m * m = c + 1 := by grind
  have e2 : 1 / m * m = 1 := by grind
  generalize (c + 1) / m = r at *
  generalize 1 / m = ε at *
  have mm := Rat.mul_pos sp sp
  refine ⟨?_, ?_, ?_⟩
  · have := nn_mul (k := m * m) (x := r * r - N) mm (by
      have : m * m * (r * r - N) = (r * m) * (r * m) - N * (m * m) := by grind
      rw [this, e1]; grind)
    grind
  · have := nn_mul (k := m * m) (x := N - (r - ε) * (r - ε)) mm (by
      have : m * m * (N - (r - ε) * (r - ε)) = N * (m * m) - (r * m - ε * m) * (r * m - ε * m) := by grind
      rw [this, e1, e2]; grind)
    grind
  · have : m ≤ r * m := by
      rw [e1]
      refine sqrt_le (by grind) ?_
      have := mul_nn (show 0 ≤ N - 1 by grind) (Rat.le_of_lt mm)
      grind
    have := nn_mul (k := m) (x := r - 1) sp (by grind)
    grind
theorem rS_one {S T : Int} (hS : 0 < S) (hT : 0 < T) {a q : Pt} (h : a ≠ q) : (T : Rat) * (isq (sq a q * (2 * S) * (2 * S)) : Rat) - 1 ≤ 2 * S * T * (((sq a q : Int) : Rat) / rS (2 * S * T) a q) := by
  have hM : 0 < 2 * S * T := Int.mul_pos (by omega) hT
  obtain ⟨h0, h1, h2⟩ := root_c (sq_nn a q) hM
  obtain ⟨k0, k1, k2⟩ := root_c (sq_nn a q) (show 0 < 2 * S by omega)
  have nm := rS_nm hM a q h
  have sp := cast_pos hM
  have tp := cast_pos hT
  have ge := nm.ge
  have on := nm.one
  have er : rS (2 * S * T) a q * ((2 * S * T : Int) : Rat) = (isq (sq a q * (2 * S * T) * (2 * S * T)) : Rat) + 1 := by unfold rS; grind
  have em : ((2 * S * T : Int) : Rat) = 2 * S * T := by rw [Rat.intCast_mul, Rat.intCast_mul]; rfl
  have e2 : ((2 * S : Int) : Rat) = 2 * S := by rw [Rat.intCast_mul]; rfl
  -- T b ≤ c
  have tb : (T : Rat) * (isq (sq a q * (2 * S) * (2 * S)) : Rat) ≤ (isq (sq a q * (2 * S * T) * (2 * S * T)) : Rat) := by
    have q1 : (T : Rat) * (isq (sq a q * (2 * S) * (2 * S)) : Rat) < (isq (sq a q * (2 * S * T) * (2 * S * T)) : Rat) + 1 := by
      rcases lt_or ((T : Rat) * (isq (sq a q * (2 * S) * (2 * S)) : Rat)) ((isq (sq a q * (2 * S * T) * (2 * S * T)) : Rat) + 1) with c | c
      · exact c
      · exfalso
        have s := mul_nn (show 0 ≤ (T : Rat) * (isq (sq a q * (2 * S) * (2 * S)) : Rat) - ((isq (sq a q * (2 * S * T) * (2 * S * T)) : Rat) + 1) by grind) (show 0 ≤ (T : Rat) * (isq (sq a q * (2 * S) * (2 * S)) : Rat) + ((isq (sq a q * (2 * S * T) * (2 * S * T)) : Rat) + 1) by grind)
        have w := mul_nn (show 0 ≤ ((sq a q : Int) : Rat) * (((2 * S : Int) : Rat) * ((2 * S : Int) : Rat)) - (isq (sq a q * (2 * S) * (2 * S)) : Rat) * (isq (sq a q * (2 * S) * (2 * S)) : Rat) by grind) (mul_nn (Rat.le_of_lt tp) (Rat.le_of_lt tp))
        rw [em] at h2
        rw [e2] at w
        generalize (isq (sq a q * (2 * S) * (2 * S)) : Rat) = b at *
        generalize (isq (sq a q * (2 * S * T) * (2 * S * T)) : Rat) = c at *
        grind
    have q2 : T * isq (sq a q * (2 * S) * (2 * S)) < isq (sq a q * (2 * S * T) * (2 * S * T)) + 1 := by
      have : ((T * isq (sq a q * (2 * S) * (2 * S)) : Int) : Rat) < ((isq (sq a q * (2 * S * T) * (2 * S * T)) + 1 : Int) : Rat) := by
        rw [Rat.intCast_mul, Rat.intCast_add]
        exact q1
      exact_mod_cast this
    have q3 := cast_le (show T * isq (sq a q * (2 * S) * (2 * S)) ≤ isq (sq a q * (2 * S * T) * (2 * S * T)) by omega)
    rw [Rat.intCast_mul] at q3
    exact q3
  have ev := div_mulc (x := ((sq a q : Int) : Rat)) on
  generalize ((sq a q : Int) : Rat) / rS (2 * S * T) a q = v at *
  generalize rS (2 * S * T) a q = r at *
  have ee : 1 / ((2 * S * T : Int) : Rat) * ((2 * S * T : Int) : Rat) = 1 := by grind
  generalize 1 / ((2 * S * T : Int) : Rat) = ε at *
  rw [← em]
  generalize ((2 * S * T : Int) : Rat) = m at *
  have vr : r - 2 * ε ≤ v := by
    have := nn_mul (k := r) (x := v - (r - 2 * ε)) (by grind) (by
      have := sqnR ε
      grind)
    grind
  have := mul_nn (show 0 ≤ v - (r - 2 * ε) by grind) (Rat.le_of_lt sp)
  grind
theorem rS_sum {gates : List Gt} {e : Pt} {S T : Int} (hS : 0 < S) (hT : 0 < T) : ∀ (ks : List Pt) (ls : List Int) (A : Pt) (c : Nat), RawG gates e true A c ks ls → (T : Rat) * ((lgs (2 * S) A ks : Int) : Rat) - ((ks.length : Int) : Rat) ≤ 2 * S * T * Vl (rS (2 * S * T)) A ks
  | [], _, _, _, h => h.elim
  | [q], ls, A, c, h => by
    have o := rS_one hS hT h.2.1
    show (T : Rat) * ((isq (sq A q * (2 * S) * (2 * S)) + 0 : Int) : Rat) - ((1 : Int) : Rat) ≤ 2 * S * T * (((sq A q : Int) : Rat) / rS (2 * S * T) A q + 0)
    rw [Int.add_zero, Rat.add_zero]
    exact o
  | q :: q' :: r, [], _, _, h => h.elim
  | q :: q' :: r, b :: ls, A, c, h => by
    obtain ⟨bN, g, h1, h2, h3, h4, h5, h6, h7, h8, h9⟩ := h
    have ih := rS_sum hS hT (q' :: r) ls q (bN + 1) h9
    have o := rS_one hS hT h6
    show (T : Rat) * ((isq (sq A q * (2 * S) * (2 * S)) + lgs (2 * S) q (q' :: r) : Int) : Rat) - (((q :: q' :: r).length : Int) : Rat) ≤ 2 * S * T * (((sq A q : Int) : Rat) / rS (2 * S * T) A q + Vl (rS (2 * S * T)) q (q' :: r))
    rw [Rat.intCast_add, List.length_cons, Int.natCast_add, Rat.intCast_add, show (((1 : Nat) : Int) : Rat) = 1 from rfl]
    grind
theorem min_all {gates : List Gt} {e : Pt} {S : Int} (hS : 0 < S) (hG : ∀ g ∈ gates, GOk g) (he : bP e) {ks : List Pt} {ls : List Int} {A : Pt} (hA : bP A) (h : RawG gates e true A 0 ks ls) (hk : ks.length ≤ 100) (hl : ls.length ≤ 100) {zs : List Pt} (hz : zs.length = gates.length) (on : ∀ (i : Nat) z g, zs[i]? = some z → gates[i]? = some g → OnZ g z) :
    lgs (2 * S) A ks ≤ lgs S (2 * A.1, 2 * A.2) (zs ++ [(2 * e.1, 2 * e.2)]) + (zs.length + 1) := by
  obtain ⟨K, hK⟩ : ∃ K : Int, K = 800000000 := ⟨_, rfl⟩
  obtain ⟨T, hT⟩ : ∃ T : Int, T = 1000000000000 := ⟨_, rfl⟩
  have tp : 0 < T := by omega
  have hM : 0 < 2 * S * T := Int.mul_pos (by omega) tp
  have mp := cast_pos hM
  have m1 := cast_le (show 1 ≤ 2 * S * T by omega)
  have em : ((2 * S * T : Int) : Rat) = 2 * S * T := by rw [Rat.intCast_mul, Rat.intCast_mul]; rfl
  have m1 : (1 : Rat) ≤ ((2 * S * T : Int) : Rat) := m1
  have ee : 1 / ((2 * S * T : Int) : Rat) * ((2 * S * T : Int) : Rat) = 1 := by grind
  have e0 : (0 : Rat) ≤ 1 / ((2 * S * T : Int) : Rat) := nn_mul (k := ((2 * S * T : Int) : Rat)) mp (by grind)
  have e1 : 1 / ((2 * S * T : Int) : Rat) ≤ 1 := by
    have := mul_nn e0 (show 0 ≤ ((2 * S * T : Int) : Rat) - 1 by grind)
    grind
  obtain ⟨q, r, _, _, _, m⟩ := min_r hK (rS_nm hM) (lS_up hS) e0 e1 hG he ks ls A 0 zs (2 * A.1, 2 * A.2) hA h (by omega) fun i z g hi hg => on i z g hi (by rw [Nat.zero_add] at hg; exact hg)
  have a := rS_sum hS tp ks ls A 0 h
  have b := lS_sum hS (zs ++ [(2 * e.1, 2 * e.2)]) (2 * A.1, 2 * A.2)
  dsimp only at m
  have z1 : ((2 * A.1 : Int) : Rat) - 2 * (A.1 : Rat) = 0 := by rw [Rat.intCast_mul]; exact Rat.sub_self
  have z2 : ((2 * A.2 : Int) : Rat) - 2 * (A.2 : Rat) = 0 := by rw [Rat.intCast_mul]; exact Rat.sub_self
  rw [z1, z2, Rat.mul_zero, Rat.mul_zero] at m
  have sp := cast_pos hS
  have tpR := cast_pos tp
  have st := Rat.mul_pos sp tpR
  have mm := mul_nn (Rat.le_of_lt st) (show 0 ≤ Fl (lS S) (2 * A.1, 2 * A.2) (zs ++ [(2 * e.1, 2 * e.2)]) - (2 * Vl (rS (2 * S * T)) A ks - 2 * (K : Rat) * (1 / ((2 * S * T : Int) : Rat)) * (ls.length : Nat)) by grind)
  have n0 : (0 : Rat) ≤ ((ls.length : Int) : Rat) := cast_nn (by omega)
  have fin : ((T * lgs (2 * S) A ks : Int) : Rat) ≤ ((T * (lgs S (2 * A.1, 2 * A.2) (zs ++ [(2 * e.1, 2 * e.2)]) + ((zs ++ [(2 * e.1, 2 * e.2)]).length : Int)) + (ks.length : Int) + K * (ls.length : Int) : Int) : Rat) := by
    rw [Rat.intCast_mul, Rat.intCast_add, Rat.intCast_add, Rat.intCast_mul, Rat.intCast_add, Rat.intCast_mul, ← b]
    have en : ((ls.length : Nat) : Rat) = ((ls.length : Int) : Rat) := rfl
    rw [en] at mm
    rw [em] at ee mm
    have e3 : S * (T : Rat) * (2 * (K : Rat) * (1 / (2 * (S : Rat) * T)) * ((ls.length : Int) : Rat)) = K * ((ls.length : Int) : Rat) := by
      generalize 1 / (2 * (S : Rat) * T) = ε at *
      grind
    grind
  have fin2 : T * lgs (2 * S) A ks ≤ T * (lgs S (2 * A.1, 2 * A.2) (zs ++ [(2 * e.1, 2 * e.2)]) + ((zs ++ [(2 * e.1, 2 * e.2)]).length : Int)) + (ks.length : Int) + K * (ls.length : Int) := by exact_mod_cast fin
  rw [List.length_append, List.length_singleton] at fin2
  push_cast at fin2
  generalize lgs (2 * S) A ks = x at *
  generalize lgs S (2 * A.1, 2 * A.2) (zs ++ [(2 * e.1, 2 * e.2)]) = y at *
  subst hK
  subst hT
  omega
end W
set_option Elab.async false
set_option linter.all false
set_option maxRecDepth 100000
set_option maxHeartbeats 2000000
namespace W
open PySem L2 Mi
theorem smn_le {n : Nat} {i j : Int} (h : Smn n j) (h0 : 0 ≤ i) (h1 : i ≤ j) : Smn n i := by
  unfold Smn at *
  omega
theorem smn_2 {n : Nat} {i j : Int} (h : Smn n j) (h0 : 0 ≤ i) (h1 : i ≤ 2 * j + 2) : Smn (n + 3) i := by
  unfold Smn at *
  have : 2 ^ (n + 3) = 8 * 2 ^ n := by rw [Nat.pow_add]; omega
  have : 0 < 2 ^ n := Nat.pow_pos (by decide)
  omega
theorem half_step {n lo hi : Int} (h1 : lo * lo ≤ n) (h2 : n < hi * hi) (h0 : 0 ≤ lo) (hlt : lo < hi) (hd : ¬ 1 < hi - lo) : isq n = lo := by
  have : hi = lo + 1 := by omega
  subst this
  exact Rt.is ⟨h0, h1, h2⟩
/-- the halving, from any two ends -/
theorem halving {n : Int} {k : Nat} (hk : k ≤ 4000) (x y : Int) (h0 : 0 ≤ x) (hxy : x < y) (h1 : x * x ≤ n) (h2 : n < y * y) (hy : Smn k y) :
    ((Pl.whO (fun (s2 : Int × Int) => (some (decide ((1 : Int) < (s2.2 - s2.1))))) (fun (s2 : Int × Int) =>
  (Pl.div (s2.1 + s2.2) (2 : Int)).bind fun t5 =>
  (Pl.mul t5 t5).bind fun t6 =>
  ((if (decide (t6 ≤ n)) = true then
  some (t5, s2.2)
  else
  some (s2.1, t5)) : Option (Int × Int)).bind fun j7 =>
  some (.go (j7.1, j7.2))) (x, y)) : Option ((Int × Int) ⊕ Int)).bind (Pl.out (fun (s2 : Int × Int) =>
  some s2.1) (fun _ => none)) = some (isq n) := by
  refine Tot.get ?_
  refine Tot.wh (fun m (st : Int × Int) => m = (st.2 - st.1).toNat ∧ 0 ≤ st.1 ∧ st.1 < st.2 ∧ st.1 * st.1 ≤ n ∧ n < st.2 * st.2 ∧ st.2 ≤ y) (fun st => isq n = st.1) (fun _ => False) (y - x).toNat ⟨rfl, h0, hxy, h1, h2, Int.le_refl _⟩ ?_ (fun st h => ⟨_, rfl, h.symm⟩) fun r h => h.elim
  rintro m ⟨lo, hi⟩ ⟨e, i0, i1, i2, i3, i4⟩
  dsimp only at *
  refine ⟨_, rfl, fun hp => ?_, fun hp => ?_⟩
  · exact half_step i2 i3 i0 i1 (of_decide_eq_false hp)
  · have hp := of_decide_eq_true hp
    refine Tot.of (div64 (by decide) (by decide)) ?_
    generalize hm : (lo + hi) / 2 = mid
    have m1 : lo < mid := by omega
    have m2 : mid < hi := by omega
    have sm := smn_le hy (i := mid) (by omega) (by omega)
    refine Tot.of (mul_t sm sm (Nat.le_trans hk (by decide)) (Nat.le_trans hk (by decide))) ?_
    refine Tot.bind (Ψ := fun j : Int × Int => (mid * mid ≤ n ∧ j = (mid, hi)) ∨ (¬ mid * mid ≤ n ∧ j = (lo, mid))) ?_ fun j hj => ?_
    · refine Tot.ite (fun c => ⟨_, rfl, .inl ⟨of_decide_eq_true c, rfl⟩⟩) fun c => ⟨_, rfl, .inr ⟨of_decide_eq_false c, rfl⟩⟩
    · rcases hj with ⟨c, rfl⟩ | ⟨c, rfl⟩
      · exact ⟨_, rfl, _, by dsimp only; omega, rfl, by dsimp only; omega, by dsimp only; omega, c, i3, i4⟩
      · exact ⟨_, rfl, _, by dsimp only; omega, rfl, i0, m1, i2, by dsimp only; omega, by dsimp only; omega⟩
theorem law_root_t {n : Int} (h0 : 0 ≤ n) (hs : Smn 300 n) : p_law_root n = some (isq n) := by
  unfold p_law_root
  refine halving (k := 303) (by decide) 0 (n + 1) (by decide) (by omega) (by omega) ?_ (smn_2 hs (by omega) (by omega))
  have := Int.mul_le_mul (show n + 1 ≤ n + 1 by omega) (show 1 ≤ n + 1 by omega) (by decide) (show 0 ≤ n + 1 by omega)
  omega
theorem root_t {n : Int} (h0 : 0 ≤ n) (hs : Smn 300 n) : p_root n = some (isq n) := by
  unfold p_root
  refine Tot.get ?_
  refine Tot.wh (fun m (st : Int) => m = (n + 1 - st).toNat ∧ 1 ≤ st ∧ st ≤ 2 * n + 2) (fun st => n < st * st ∧ 1 ≤ st ∧ st ≤ 2 * n + 2) (fun _ => False) (n + 1 - 1).toNat ⟨rfl, by decide, by omega⟩ ?_ (fun st h => ?_) fun r h => h.elim
  · rintro m st ⟨e, i0, i1⟩
    have sm := smn_2 hs (i := st) (by omega) i1
    refine ⟨decide (st * st ≤ n), ?_, fun hp => ⟨by have := of_decide_eq_false hp; omega, i0, i1⟩, fun hp => ?_⟩
    · rw [mul_t sm sm (by decide) (by decide)]
      rfl
    · have hp := of_decide_eq_true hp
      have le : st ≤ n := by
        have := Int.mul_le_mul (show 1 ≤ st by omega) (show st ≤ st by omega) (by omega) (by omega)
        omega
      refine Tot.of (mul_t sm (m := 64) (Smn.of (by decide)) (by decide) (by decide)) (Tot.nm ⟨_, rfl, _, ?_, rfl, ?_, ?_⟩) <;> omega
  · obtain ⟨h1, h2, h3⟩ := h
    exact ⟨_, halving (k := 303) (by decide) 0 st (by decide) (by omega) (by omega) h1 (smn_2 hs (by omega) h3), rfl⟩
def legs : List Pt → List (Pt × Pt)
  | [] => []
  | [_] => []
  | a :: b :: r => (a, b) :: legs (b :: r)
def lgN (S : Int) (l : Pt × Pt) : Int := sq l.1 l.2 * S * S
def exN (S : Int) (l : Pt × Pt) : Bool := decide (isq (lgN S l) * isq (lgN S l) = lgN S l)
def lgL (S : Int) (L : List (Pt × Pt)) : Int := (L.map fun l => isq (lgN S l)).sum
theorem legs_len : ∀ (P : List Pt), (legs P).length = P.length - 1
  | [] => rfl
  | [_] => rfl
  | a :: b :: r => by
    rw [legs, List.length_cons, legs_len (b :: r)]
    simp
theorem legs_at : ∀ {P : List Pt} {i : Nat} {l : Pt × Pt}, (legs P)[i]? = some l → P[i]? = some l.1 ∧ P[i + 1]? = some l.2
  | [], _, _, h => by simp [legs] at h
  | [_], _, _, h => by simp [legs] at h
  | a :: b :: r, 0, l, h => by
    rw [legs] at h
    cases h
    exact ⟨rfl, rfl⟩
  | a :: b :: r, i + 1, l, h => by
    rw [legs, List.getElem?_cons_succ] at h
    obtain ⟨h1, h2⟩ := legs_at h
    exact ⟨by simpa using h1, by simpa using h2⟩
theorem lgs_L {S : Int} : ∀ (ys : List Pt) (z : Pt), lgL S (legs (z :: ys)) = lgs S z ys
  | [], z => rfl
  | y :: ys, z => by
    rw [legs, lgs, ← lgs_L ys y]
    rfl
theorem lgs_nn {S : Int} : ∀ (ys : List Pt) (z : Pt), 0 ≤ lgs S z ys
  | [], z => Int.le_refl _
  | y :: ys, z => by
    rw [lgs]
    have := lgs_nn (S := S) ys y
    have : 0 ≤ isq (sq z y * S * S) := Int.natCast_nonneg _
    omega
theorem forN_ix {β σ : Type} {f : Int → σ → Option σ} {g : β → σ → Option σ} : ∀ (xs : List β) (k : Nat) (s : σ), (∀ (i : Nat) x s, xs[i]? = some x → f ((k + i : Nat) : Int) s = g x s) → Pl.forN f (Pl.rng (k : Int) ((k + xs.length : Nat) : Int)) s = Pl.forN g xs s
  | [], k, s, _ => by rw [List.length_nil, Nat.add_zero, rng_nil (Int.le_refl _)]; rfl
  | x :: xs, k, s, h => by
    rw [rng_cons (by rw [List.length_cons]; omega), Pl.forN, Pl.forN]
    have h0 := h 0 x s rfl
    rw [Nat.add_zero] at h0
    rw [h0]
    congr 1
    funext s2
    have ih := forN_ix (f := f) (g := g) xs (k + 1) s2 fun i y s hy => by
      rw [show k + 1 + i = k + (i + 1) by omega]
      exact h (i + 1) y s (by simpa using hy)
    rw [← ih]
    congr 2
    rw [List.length_cons]
    omega
theorem cmp_ix {β γ : Type} {f : Int → Option γ} {F : β → γ} : ∀ (xs : List β) (k : Nat), (∀ (i : Nat) x, xs[i]? = some x → f ((k + i : Nat) : Int) = some (F x)) → Pl.cmp (fun _ => some true) f (Pl.rng (k : Int) ((k + xs.length : Nat) : Int)) = some (xs.map F)
  | [], k, _ => by rw [List.length_nil, Nat.add_zero, rng_nil (Int.le_refl _)]; rfl
  | x :: xs, k, h => by
    rw [rng_cons (by rw [List.length_cons]; omega), Pl.cmp, Option.bind_some, if_pos rfl]
    have h0 := h 0 x rfl
    rw [Nat.add_zero] at h0
    have ih := cmp_ix (f := f) (F := F) xs (k + 1) fun i y hy => by
      rw [show k + 1 + i = k + (i + 1) by omega]
      exact h (i + 1) y (by simpa using hy)
    rw [h0, Option.bind_some, show ((k + (x :: xs).length : Nat) : Int) = ((k + 1 + xs.length : Nat) : Int) by rw [List.length_cons]; omega, show (k : Int) + 1 = ((k + 1 : Nat) : Int) by omega, ih]
    rfl
theorem comp_ix {β γ : Type} {f : Int → Option γ} {F : β → γ} (xs : List β) (hl : xs.length ≤ szl) (h : ∀ (i : Nat) x, xs[i]? = some x → f (i : Int) = some (F x)) : Pl.comp (fun _ => some true) f (Pl.rng 0 (xs.length : Int)) = some (xs.map F) := by
  have e := cmp_ix (f := f) (F := F) xs 0 fun i x hx => by rw [Nat.zero_add]; exact h i x hx
  rw [Nat.zero_add] at e
  unfold Pl.comp
  rw [if_pos (by rw [rng_len]; omega)]
  exact e
def bZ (p : Pt) : Prop := (-30000 ≤ p.1 ∧ p.1 ≤ 30000) ∧ -30000 ≤ p.2 ∧ p.2 ≤ 30000
theorem lgN_nn (S : Int) (l : Pt × Pt) : 0 ≤ lgN S l := by
  unfold lgN
  rw [Int.mul_assoc]
  exact Int.mul_nonneg (sq_nn _ _) (sqn S)
theorem isq_le {n : Int} (h : 0 ≤ n) : 0 ≤ isq n ∧ isq n ≤ n := by
  have r := isq_rt h
  refine ⟨r.z, ?_⟩
  have h1 := r.lo
  have h2 := r.z
  rcases Int.lt_or_le (isq n) 1 with c | c
  · omega
  · have := Int.mul_le_mul c (Int.le_refl (isq n)) h2 h2
    omega
theorem lenN_t {S : Int} (hS : 0 ≤ S ∧ S ≤ 2000000000) {P : List Pt} (hP : ∀ p ∈ P, bZ p) (hl : 1 ≤ P.length) (hl2 : P.length ≤ 1000) : p_law_length P S = some (lgL S (legs P), (legs P).all (exN S)) := by
  have step : ∀ (i : Nat) l (s : Int × Bool), (legs P)[i]? = some l → ((Pl.at_ P ((i : Int) + (1 : Int))).bind fun t8 =>
  (Pl.at_ P (i : Int)).bind fun t9 =>
  (Pl.mul (t8.1 - t9.1) S).bind fun t10 =>
  (Pl.at_ P ((i : Int) + (1 : Int))).bind fun t11 =>
  (Pl.at_ P (i : Int)).bind fun t12 =>
  (Pl.mul (t11.2 - t12.2) S).bind fun t13 =>
  (Pl.mul t10 t10).bind fun t14 =>
  (Pl.mul t13 t13).bind fun t15 =>
  (p_law_root (t14 + t15)).bind fun t16 =>
  (some ((s.1 + t16))).bind fun v_low17 =>
  (Pl.andO s.2 ((Pl.mul t16 t16).bind fun t18 => (Pl.mul t10 t10).bind fun t19 => (Pl.mul t13 t13).bind fun t20 => some (decide (t18 = (t19 + t20))))).bind fun t21 =>
  some (v_low17, t21)) = some (s.1 + isq (lgN S l), s.2 && exN S l) := fun i l s h => by
    obtain ⟨h1, h2⟩ := legs_at h
    have b1 := hP _ (List.mem_of_getElem? h1)
    have b2 := hP _ (List.mem_of_getElem? h2)
    unfold bZ at b1 b2
    have dx : ∀ a b : Int, (-30000 ≤ a ∧ a ≤ 30000) → (-30000 ≤ b ∧ b ≤ 30000) → Pl.mul (b - a) S = some ((b - a) * S) ∧ Smn 128 ((b - a) * S) := fun a b ha hb => by
      have q1 := Smn.of (i := b - a) (by omega)
      have q2 := Smn.of (i := S) (by omega)
      exact ⟨mul_t q1 q2 (by decide) (by decide), q1.mul q2⟩
    obtain ⟨d1, d2⟩ := dx _ _ b1.1 b2.1
    obtain ⟨d3, d4⟩ := dx _ _ b1.2 b2.2
    have eN : (l.2.1 - l.1.1) * S * ((l.2.1 - l.1.1) * S) + (l.2.2 - l.1.2) * S * ((l.2.2 - l.1.2) * S) = lgN S l := by unfold lgN sq; grind
    have sN := (d2.mul d2).add (d4.mul d4)
    rw [eN] at sN
    have sN : Smn 300 (lgN S l) := sN.mono (by decide)
    have n0 := lgN_nn S l
    have rt := law_root_t n0 sN
    have si := smn_le sN (isq_le n0).1 (isq_le n0).2
    rw [at_t (n := i + 1) (by omega) h2, Option.bind_some, at_t rfl h1, Option.bind_some, d1, Option.bind_some, Option.bind_some, Option.bind_some, d3, Option.bind_some, mul_t d2 d2 (by decide) (by decide), Option.bind_some, mul_t d4 d4 (by decide) (by decide), Option.bind_some, eN, rt, Option.bind_some, Option.bind_some, mul_t si si (by decide) (by decide), Option.bind_some, Option.bind_some, Option.bind_some, eN, andO_t, Option.bind_some]
    rfl
  have e1 : (P.length : Int) - 1 = ((0 + (legs P).length : Nat) : Int) := by rw [legs_len]; omega
  unfold p_law_length
  refine Tot.get (Tot.rngO ⟨by decide, by omega⟩ ?_)
  rw [e1, show (0 : Int) = ((0 : Nat) : Int) from rfl, forN_ix (legs P) 0 _ fun i x s hx => by rw [Nat.zero_add]; exact step i x s hx]
  have run : ∀ (L : List (Pt × Pt)) (s : Int × Bool), Pl.forN (fun (l : Pt × Pt) (s : Int × Bool) => some (s.1 + isq (lgN S l), s.2 && exN S l)) L s = some (s.1 + lgL S L, s.2 && L.all (exN S)) := fun L => by
    induction L with
    | nil => intro s; rw [Pl.forN]; simp [lgL]
    | cons l L ih =>
      intro s
      rw [Pl.forN, Option.bind_some, ih]
      simp only [lgL, List.map_cons, List.sum_cons, List.all_cons]
      rw [Int.add_assoc, Bool.and_assoc]
  rw [run, Option.bind_some]
  refine ⟨_, rfl, ?_⟩
  simp
theorem bounds_t {S : Int} (hS : 0 ≤ S ∧ S ≤ 100000) {P : List Pt} (hP : ∀ p ∈ P, bP p) (hl : 1 ≤ P.length) (hl2 : P.length ≤ 1000) : p_length_bounds P S = some (lgL S (legs P), lgL S (legs P) + (((legs P).filter fun l => !exN S l).length : Int)) := by
  have step : ∀ (i : Nat) l (s : Int × Int), (legs P)[i]? = some l → ((Pl.at_ P (i : Int)).bind fun t7 =>
  (Pl.at_ P ((i : Int) + (1 : Int))).bind fun t8 =>
  (p_distance t7 t8).bind fun t9 =>
  (Pl.mul t9 S).bind fun t10 =>
  (Pl.mul t10 S).bind fun t11 =>
  (p_root t11).bind fun t12 =>
  (some (s.1 + t12)).bind fun v_low13 =>
  (Pl.mul t12 t12).bind fun t14 =>
  (some (s.2 + (if (decide (t14 = t11)) = true then t12 else (t12 + (1 : Int))))).bind fun v_high15 =>
  some (v_low13, v_high15)) = some (s.1 + isq (lgN S l), s.2 + (isq (lgN S l) + if exN S l = true then 0 else 1)) := fun i l s h => by
    obtain ⟨h1, h2⟩ := legs_at h
    have b1 := hP _ (List.mem_of_getElem? h1)
    have b2 := hP _ (List.mem_of_getElem? h2)
    have sb := sq_bd b1 b2
    have q1 := Smn.of (i := sq l.1 l.2) (by omega)
    have q2 := Smn.of (i := S) (by omega)
    have n0 := lgN_nn S l
    have sN : Smn 300 (lgN S l) := ((q1.mul q2).mul q2).mono (by decide)
    have si := smn_le sN (isq_le n0).1 (isq_le n0).2
    rw [at_t rfl h1, Option.bind_some, at_t (n := i + 1) (by omega) h2, Option.bind_some, distance_t b1 b2, Option.bind_some, mul_t q1 q2 (by decide) (by decide), Option.bind_some, mul_t (q1.mul q2) q2 (by decide) (by decide), Option.bind_some]
    show ((p_root (lgN S l)).bind _ : Option (Int × Int)) = _
    rw [root_t n0 sN, Option.bind_some, Option.bind_some, mul_t si si (by decide) (by decide), Option.bind_some, Option.bind_some]
    show some (s.1 + isq (lgN S l), s.2 + (if exN S l = true then isq (lgN S l) else isq (lgN S l) + 1)) = _
    by_cases c : exN S l = true
    · rw [if_pos c, if_pos c, Int.add_zero]
    · rw [if_neg c, if_neg c]
  have e1 : (P.length : Int) - 1 = ((0 + (legs P).length : Nat) : Int) := by rw [legs_len]; omega
  unfold p_length_bounds
  refine Tot.get (Tot.rngO ⟨by decide, by omega⟩ ?_)
  rw [e1, show (0 : Int) = ((0 : Nat) : Int) from rfl, forN_ix (legs P) 0 _ fun i x s hx => by rw [Nat.zero_add]; exact step i x s hx]
  have run : ∀ (L : List (Pt × Pt)) (s : Int × Int), Pl.forN (fun (l : Pt × Pt) (s : Int × Int) => some (s.1 + isq (lgN S l), s.2 + (isq (lgN S l) + if exN S l = true then 0 else 1))) L s = some (s.1 + lgL S L, s.2 + (lgL S L + ((L.filter fun l => !exN S l).length : Int))) := fun L => by
    induction L with
    | nil => intro s; rw [Pl.forN]; simp [lgL]
    | cons l L ih =>
      intro s
      rw [Pl.forN, Option.bind_some, ih]
      simp only [lgL, List.map_cons, List.sum_cons]
      by_cases c : exN S l = true
      · rw [List.filter_cons_of_neg (by rw [c]; decide), if_pos c]
        congr 2 <;> omega
      · rw [List.filter_cons_of_pos (by simpa using c), if_neg c, List.length_cons]
        congr 2 <;> omega
  rw [run, Option.bind_some]
  refine ⟨_, rfl, ?_⟩
  simp
/-- the parts of a string, one by one -/
theorem cut2 {α : Type} {xs : List α} {i : Nat} {a b : α} (h1 : xs[i]? = some a) (h2 : xs[i + 1]? = some b) : N.cutL xs (some (i : Int)) (some ((i : Int) + 2)) = [a, b] := by
  have l3 := (List.getElem?_eq_some_iff.mp h2).1
  have s1 : HT.sIx xs.length 0 (some (i : Int)) = i := by rw [HT.sIx_nat]; omega
  have s2 : HT.sIx xs.length xs.length (some ((i : Int) + 2)) = i + 2 := by
    rw [show (i : Int) + 2 = ((i + 2 : Nat) : Int) by omega, HT.sIx_nat]
    omega
  unfold N.cutL
  rw [s1, s2, show i + 2 - i = 2 by omega]
  obtain ⟨l1, q1⟩ := List.getElem?_eq_some_iff.mp h1
  obtain ⟨l2, q2⟩ := List.getElem?_eq_some_iff.mp h2
  rw [List.drop_eq_getElem_cons l1, List.drop_eq_getElem_cons l2, q1, q2]
  rfl
theorem parts_t {S : Int} (hS : 0 ≤ S ∧ S ≤ 2000000000) {P : List Pt} (hP : ∀ p ∈ P, bZ p) (hl : 1 ≤ P.length) (hl2 : P.length ≤ 1000) : (Pl.comp (fun (x21 : Int) => (some true)) (fun (x21 : Int) => ((p_law_length (N.cutL P (some x21) (some (x21 + (2 : Int)))) S).bind fun t22 => some t22)) (Pl.rng 0 ((P.length : Int) - 1))) = some ((legs P).map fun l => (isq (lgN S l), exN S l)) := by
  have e1 : (P.length : Int) - 1 = ((legs P).length : Int) := by rw [legs_len]; omega
  rw [e1]
  refine comp_ix (legs P) (by rw [legs_len]; unfold szl; omega) fun i l h => ?_
  obtain ⟨h1, h2⟩ := legs_at h
  rw [cut2 h1 h2, lenN_t (P := [l.1, l.2]) hS (fun p hp => ?_) (Nat.succ_pos _) (show 2 ≤ 1000 by decide)]
  · simp [legs, lgL]
  · simp only [List.mem_cons, List.not_mem_nil, or_false] at hp
    rcases hp with rfl | rfl
    · exact hP _ (List.mem_of_getElem? h1)
    · exact hP _ (List.mem_of_getElem? h2)
end W
set_option Elab.async false
set_option linter.all false
set_option maxRecDepth 100000
set_option maxHeartbeats 2000000
namespace W
open PySem L2 Mi
def p2 (p : Pt) : Pt := (2 * p.1, 2 * p.2)
theorem on_one {a c k m : Int} (hm : m = (if c - a < 0 then -(c - a) else c - a)) (hne : a ≠ c) (h0 : 0 ≤ k) (h1 : k ≤ 2 * m) : ∃ t : Rat, 0 ≤ t ∧ t ≤ 1 ∧ ((2 * a + k * (1 - 2 * (if c < a then 1 else 0)) : Int) : Rat) = 2 * ((a : Rat) + t * ((c : Rat) - a)) := by
  have mp : 0 < m := by split at hm <;> omega
  have mR := cast_pos mp
  have kR := cast_nn h0
  have k1 := cast_le h1
  rw [Rat.intCast_mul, show ((2 : Int) : Rat) = 2 from rfl] at k1
  have e : (k : Rat) / (2 * m) * (2 * m) = k := by grind
  generalize (k : Rat) / (2 * m) = t at e
  refine ⟨t, ?_, ?_, ?_⟩
  · exact nn_mul (k := 2 * (m : Rat)) (by grind) (by grind)
  · have := nn_mul (k := 2 * (m : Rat)) (x := 1 - t) (by grind) (by grind)
    grind
  · by_cases hc : c < a
    · rw [if_pos (by omega)] at hm
      rw [if_pos hc]
      have : (m : Rat) = (a : Rat) - c := by rw [hm]; push_cast; grind
      push_cast
      grind
    · rw [if_neg (by omega)] at hm
      rw [if_neg hc]
      have : (m : Rat) = (c : Rat) - a := by rw [hm]; push_cast; grind
      push_cast
      grind
theorem on_t {g : Gt} (hg : GOk g) : Tot (p_law_on g 2) fun r => 1 ≤ r.length ∧ r.length ≤ 100000 ∧ ∀ z ∈ r, OnZ g z ∧ bZ z := by
  obtain ⟨⟨⟨⟨a0, a1⟩, b0, b1⟩, ⟨c0, c1⟩, d0, d1⟩, hx⟩ := hg
  obtain ⟨⟨a, b⟩, c, d⟩ := g
  dsimp only at *
  unfold p_law_on
  dsimp only
  refine Tot.nm ?_
  generalize hmx : (if c - a < 0 then -(c - a) else c - a) = mx
  generalize hmz : (if d - b < 0 then -(d - b) else d - b) = mz
  have mx0 : 0 ≤ mx ∧ mx ≤ 20000 := by split at hmx <;> omega
  have mz0 : 0 ≤ mz ∧ mz ≤ 20000 := by split at hmz <;> omega
  generalize hmany : (if mz > mx then mz else mx) = many
  have mm : 0 ≤ many ∧ many ≤ 20000 := by split at hmany <;> omega
  generalize hu : (if (decide (c < a)) then (1 : Int) else 0) = u
  generalize hv : (if (decide (d < b)) then (1 : Int) else 0) = v
  have u0 : 0 ≤ u ∧ u ≤ 1 := by split at hu <;> omega
  have v0 : 0 ≤ v ∧ v ≤ 1 := by split at hv <;> omega
  generalize hp : (if (!decide (a = c)) then (1 : Int) else 0) = p
  generalize hq : (if (!decide (b = d)) then (1 : Int) else 0) = q
  have p0 : 0 ≤ p ∧ p ≤ 1 := by split at hp <;> omega
  have q0 : 0 ≤ q ∧ q ≤ 1 := by split at hq <;> omega
  refine Tot.of (mul64 (by omega) (by omega)) (Tot.of (mul64 (by omega) (by omega)) (Tot.of (mul64 (by omega) (by omega)) (Tot.of (mul64 (by omega) (by omega)) (Tot.nm (Tot.of (mul64 (by omega) (by omega)) (Tot.rngO ⟨by decide, by omega⟩ ?_))))))
  have sp : -1 ≤ p * (1 - 2 * u) ∧ p * (1 - 2 * u) ≤ 1 := by
    have : u = 0 ∨ u = 1 := by omega
    rcases this with rfl | rfl <;> omega
  have sq' : -1 ≤ q * (1 - 2 * v) ∧ q * (1 - 2 * v) ≤ 1 := by
    have : v = 0 ∨ v = 1 := by omega
    rcases this with rfl | rfl <;> omega
  refine Tot.of (comp_em (fun k : Int => (2 * a + k * (p * (1 - 2 * u)), 2 * b + k * (q * (1 - 2 * v)))) (by rw [rng_len]; unfold szl; omega) fun k hk => ?_) ⟨_, rfl, ?_, ?_, fun z hz => ?_⟩
  · have hk := rng_mem.mp hk
    rw [mul64 (by omega) (by omega), Option.bind_some]
    show ((some (p * (1 - 2 * u))).bind _ : Option (Int × Int)) = _
    rw [Option.bind_some, mul64 (by omega) (by omega), Option.bind_some, mul64 (by omega) (by omega), Option.bind_some]
    show ((some (q * (1 - 2 * v))).bind _ : Option (Int × Int)) = _
    rw [Option.bind_some, mul64 (by omega) (by omega), Option.bind_some]
  · rw [List.length_map, rng_len]
    omega
  · rw [List.length_map, rng_len]
    omega
  · obtain ⟨k, hk, rfl⟩ := List.mem_map.mp hz
    have hk := rng_mem.mp hk
    rcases hx with ⟨e1, e2⟩ | ⟨e1, e2⟩
    · have hp0 : p = 0 := by rw [← hp, decide_eq_true e1]; rfl
      have hq1 : q = 1 := by rw [← hq, decide_eq_false e2]; rfl
      have hmx0 : mx = 0 := by rw [if_neg (by omega)] at hmx; omega
      have hmny : many = mz := by split at hmany <;> omega
      obtain ⟨t, t0, t1, t2⟩ := on_one (a := b) (c := d) (k := k) hmz.symm e2 (by omega) (by omega)
      have hvv : v = (if d < b then 1 else 0) := by
        rw [← hv]
        by_cases c : d < b
        · rw [if_pos c, if_pos (decide_eq_true c)]
        · rw [if_neg c, if_neg (by simpa using c)]
      rw [← hvv] at t2
      have ev : q * (1 - 2 * v) = 1 - 2 * v := by rw [hq1, Int.one_mul]
      have eu : k * (p * (1 - 2 * u)) = 0 := by rw [hp0, Int.zero_mul, Int.mul_zero]
      rw [ev, eu]
      refine ⟨⟨t, t0, t1, ?_, ?_⟩, ?_⟩
      · unfold gq
        dsimp only
        rw [← e1]
        push_cast
        grind
      · unfold gq
        dsimp only
        exact t2
      · have : k * (1 - 2 * v) ≤ 2 * mz ∧ -(2 * mz) ≤ k * (1 - 2 * v) := by
          have : v = 0 ∨ v = 1 := by omega
          rcases this with rfl | rfl <;> omega
        have bb : -20000 ≤ 2 * b + k * (1 - 2 * v) ∧ 2 * b + k * (1 - 2 * v) ≤ 20000 := by
          by_cases c : d < b
          · rw [if_pos c] at hvv
            rw [if_pos (by omega)] at hmz
            subst hvv
            omega
          · rw [if_neg c] at hvv
            rw [if_neg (by omega)] at hmz
            subst hvv
            omega
        unfold bZ
        dsimp only
        omega
    · have hq0 : q = 0 := by rw [← hq, decide_eq_true e1]; rfl
      have hp1 : p = 1 := by rw [← hp, decide_eq_false e2]; rfl
      have hmz0 : mz = 0 := by rw [if_neg (by omega)] at hmz; omega
      have hmny : many = mx := by split at hmany <;> omega
      obtain ⟨t, t0, t1, t2⟩ := on_one (a := a) (c := c) (k := k) hmx.symm e2 (by omega) (by omega)
      have huu : u = (if c < a then 1 else 0) := by
        rw [← hu]
        by_cases c' : c < a
        · rw [if_pos c', if_pos (decide_eq_true c')]
        · rw [if_neg c', if_neg (by simpa using c')]
      rw [← huu] at t2
      have eu : p * (1 - 2 * u) = 1 - 2 * u := by rw [hp1, Int.one_mul]
      have ev : k * (q * (1 - 2 * v)) = 0 := by rw [hq0, Int.zero_mul, Int.mul_zero]
      rw [eu, ev]
      refine ⟨⟨t, t0, t1, ?_, ?_⟩, ?_⟩
      · unfold gq
        dsimp only
        exact t2
      · unfold gq
        dsimp only
        rw [← e1]
        push_cast
        grind
      · have bb : -20000 ≤ 2 * a + k * (1 - 2 * u) ∧ 2 * a + k * (1 - 2 * u) ≤ 20000 := by
          by_cases c' : c < a
          · rw [if_pos c'] at huu
            rw [if_pos (by omega)] at hmx
            subst huu
            omega
          · rw [if_neg c'] at huu
            rw [if_neg (by omega)] at hmx
            subst huu
            omega
        unfold bZ
        dsimp only
        omega
theorem pick2_t (row : List Pt) (h : 0 < row.length) (hl : row.length ≤ 100000) (s : DS) : Tot (p_law_pick_v2 row s) fun r => r.1 ∈ row := by
  unfold p_law_pick_v2
  refine Tot.draw (by omega) (by omega) fun v s2 h1 h2 => ?_
  obtain ⟨x, e1, e2⟩ := at_in (xs := row) (i := v) h1 h2
  exact Tot.of e2 ⟨_, rfl, List.mem_of_getElem? e1⟩
theorem end_on {g : Gt} {p : Pt} (h : p = g.1 ∨ p = g.2) (hg : GOk g) : OnZ g (p2 p) ∧ bZ (p2 p) := by
  have bb : bP p → bZ (p2 p) := fun hb => by
    unfold bP bN at hb
    unfold bZ p2
    dsimp only
    omega
  rcases h with rfl | rfl
  · refine ⟨⟨0, Rat.le_refl, by decide, ?_, ?_⟩, bb hg.1.1⟩ <;> (unfold gq p2; dsimp only; push_cast; grind)
  · refine ⟨⟨1, by decide, Rat.le_refl, ?_, ?_⟩, bb hg.1.2⟩ <;> (unfold gq p2; dsimp only; push_cast; grind)
/-- a row so far -/
def RowOk (gates : List Gt) (s : Pt) (j : Nat) (row : List Pt) : Prop := ∃ zs, row = p2 s :: zs ∧ zs.length = j ∧ (∀ (i : Nat) z g, zs[i]? = some z → gates[i]? = some g → OnZ g z) ∧ ∀ z ∈ zs, bZ z
theorem mul2 {i : Int} (h : bN i) : Pl.mul 2 i = some (2 * i) := mul64 (by decide) (by unfold bN at h; omega)
theorem strings_t {s e : Pt} {gates : List Gt} (c : CorOk s gates e) (ds : DS) : Tot (p_law_strings s gates e ds) fun r => ∀ row ∈ r.1, ∃ zs, row = p2 s :: (zs ++ [p2 e]) ∧ zs.length = gates.length ∧ (∀ (i : Nat) z g, zs[i]? = some z → gates[i]? = some g → OnZ g z) ∧ ∀ z ∈ zs, bZ z := by
  have gn := c.n
  unfold p_law_strings
  refine Tot.of (mul2 c.bs.1) (Tot.of (mul2 c.bs.2) (Tot.nm ?_))
  refine Tot.forN (fun xs (st : List (List Pt) × DS) => ∃ pre, gates = pre ++ xs ∧ st.1.length ≤ 600 ∧ ∀ row ∈ st.1, RowOk gates s pre.length row) ⟨[], rfl, (show 1 ≤ 600 by decide), fun row hr => ?_⟩ ?_ fun st hst => ?_
  · rw [List.mem_singleton.mp hr]
    exact ⟨[], rfl, rfl, fun i z g h => by simp at h, fun z hz => by cases hz⟩
  · rintro g xs ⟨rows, ds⟩ ⟨pre, e1, e2, e3⟩
    dsimp only at e2 e3 ⊢
    have hg : gates[pre.length]? = some g := by rw [e1, List.getElem?_append_right (Nat.le_refl _), Nat.sub_self]; rfl
    have gk := c.c.g g (List.mem_of_getElem? hg)
    have plen : pre.length < gates.length := (List.getElem?_eq_some_iff.mp hg).1
    refine Tot.bind (on_t gk) fun pts hpts => ?_
    obtain ⟨l1, l2, l3⟩ := hpts
    refine Tot.of (mul64 (by omega) (by omega)) ?_
    refine Tot.bind (Ψ := fun j : List Pt × DS => rows.length * j.1.length ≤ 2000 ∧ ∀ z ∈ j.1, OnZ g z ∧ bZ z) ?_ fun j hj => ?_
    · refine Tot.ite (fun _ => Tot.nm ?_) fun hc => ⟨_, rfl, ?_, l3⟩
      · refine Tot.of (comp_em p2 (show 2 ≤ szl by decide) fun x hx => ?_) ?_
        · have bx : bP x := by
            simp only [List.mem_cons, List.not_mem_nil, or_false] at hx
            rcases hx with rfl | rfl
            · exact gk.1.1
            · exact gk.1.2
          rw [mul2 bx.1, Option.bind_some, mul2 bx.2]
          rfl
        · refine Tot.bind (on_t gk) fun pts2 hpts2 => Tot.bind (pick2_t pts2 (by have := hpts2.1; omega) hpts2.2.1 _) fun z hz => ?_
          refine Tot.of (cat_t (show 2 + 1 < szl by decide)) ⟨_, rfl, ?_, fun w hw => ?_⟩
          · show rows.length * 3 ≤ 2000
            omega
          · simp only [List.map_cons, List.map_nil, List.cons_append, List.nil_append, List.mem_cons, List.not_mem_nil, or_false] at hw
            rcases hw with rfl | rfl | rfl
            · exact end_on (.inl rfl) gk
            · exact end_on (.inr rfl) gk
            · exact hpts2.2.2 _ hz
      · have hc := of_decide_eq_false hc
        have : ((rows.length * pts.length : Nat) : Int) ≤ 300 := by push_cast; omega
        dsimp only
        omega
    · obtain ⟨j1, j2⟩ := hj
      refine Tot.forN (fun ys (acc : List (List Pt)) => ∃ m : Nat, ys.length + m = rows.length ∧ acc.length = m * j.1.length ∧ (∀ row ∈ ys, RowOk gates s pre.length row) ∧ ∀ row ∈ acc, RowOk gates s (pre.length + 1) row) ⟨0, by omega, by simp, e3, fun row hr => by cases hr⟩ ?_ fun acc hacc => Tot.nm ⟨_, rfl, pre ++ [g], by rw [e1, List.append_assoc]; rfl, ?_, fun row hr => ?_⟩
      · rintro row ys acc ⟨m, m1, m2, m3, m4⟩
        rw [List.length_cons] at m1
        have rk := m3 row List.mem_cons_self
        obtain ⟨zs, z1, z2, z3, z4⟩ := rk
        have jl : j.1.length ≤ 2000 := by
          have := Nat.mul_le_mul (show 1 ≤ rows.length by omega) (Nat.le_refl j.1.length)
          omega
        have ml : (m + 1) * j.1.length ≤ 2000 := Nat.le_trans (Nat.mul_le_mul (show m + 1 ≤ rows.length by omega) (Nat.le_refl _)) j1
        rw [Nat.add_mul, Nat.one_mul] at ml
        refine Tot.of (comp_em (fun z => row ++ [z]) (by unfold szl; omega) fun z hz => ?_) (Tot.of (cat_t (by rw [List.length_map, m2]; unfold szl; omega)) ⟨_, rfl, m + 1, by omega, ?_, fun r hr => m3 r (List.mem_cons_of_mem _ hr), fun r hr => ?_⟩)
        · rw [cat_t (by rw [z1, List.length_cons, z2, List.length_singleton]; unfold szl; omega)]
          rfl
        · rw [List.length_append, List.length_map, m2, Nat.add_mul, Nat.one_mul]
        · rcases List.mem_append.mp hr with h | h
          · exact m4 r h
          · obtain ⟨z, hz, rfl⟩ := List.mem_map.mp h
            obtain ⟨oz, bz⟩ := j2 z hz
            refine ⟨zs ++ [z], by rw [z1]; rfl, by rw [List.length_append, z2]; rfl, fun i w g' hw hg' => ?_, fun w hw => ?_⟩
            · by_cases ci : i < zs.length
              · rw [List.getElem?_append_left ci] at hw
                exact z3 i w g' hw hg'
              · rw [List.getElem?_append_right (by omega)] at hw
                have i0 : i = zs.length := by
                  have := (List.getElem?_eq_some_iff.mp hw).1
                  rw [List.length_singleton] at this
                  omega
                rw [i0, z2, hg] at hg'
                rw [i0, Nat.sub_self] at hw
                cases hw
                cases hg'
                exact oz
            · rcases List.mem_append.mp hw with h | h
              · exact z4 w h
              · rw [List.mem_singleton.mp h]; exact bz
      · dsimp only
        obtain ⟨m, m1, m2, m3, m4⟩ := hacc
        unfold N.cutL
        rw [List.length_take]
        have : HT.sIx acc.length acc.length (some (600 : Int)) = min 600 acc.length := by
          rw [show (600 : Int) = ((600 : Nat) : Int) from rfl, HT.sIx_nat]
        rw [this]
        have : HT.sIx acc.length 0 none = 0 := rfl
        rw [this]
        omega
      · obtain ⟨m, m1, m2, m3, m4⟩ := hacc
        rw [List.length_append, List.length_singleton]
        exact m4 row (List.mem_of_mem_drop (List.mem_of_mem_take hr))
  · obtain ⟨rows, ds⟩ := st
    obtain ⟨pre, e1, e2, e3⟩ := hst
    rw [List.append_nil] at e1
    subst e1
    dsimp only at e2 e3 ⊢
    refine Tot.of (comp_em (fun row => row ++ [p2 e]) (by unfold szl; omega) fun row hr => ?_) ⟨_, rfl, fun row hr => ?_⟩
    · obtain ⟨zs, z1, z2, z3, z4⟩ := e3 row hr
      rw [mul2 c.be.1, Option.bind_some, mul2 c.be.2, Option.bind_some, cat_t (by rw [z1, List.length_cons, z2, List.length_singleton]; unfold szl; omega)]
      rfl
    · obtain ⟨row', hr', rfl⟩ := List.mem_map.mp hr
      obtain ⟨zs, z1, z2, z3, z4⟩ := e3 row' hr'
      exact ⟨zs, by rw [z1]; rfl, z2, z3, z4⟩
end W
set_option Elab.async false
set_option linter.all false
set_option maxRecDepth 100000
set_option maxHeartbeats 2000000
namespace W
open PySem L2 Mi
theorem bP_bZ {p : Pt} (h : bP p) : bZ p := by
  unfold bP bN at h
  unfold bZ
  omega
theorem bP_2 {p : Pt} (h : bP p) : bZ (p2 p) := by
  unfold bP bN at h
  unfold bZ p2
  dsimp only
  omega
theorem TautOk.pts {gates : List Gt} {e s : Pt} {r : List Pt × List Int} (c : CorOk s gates e) (h : TautOk gates e s r) : (∀ p ∈ r.1, bP p) ∧ 1 ≤ r.1.length ∧ r.1.length ≤ 100 := by
  obtain ⟨f1, f2, f3, ok, f5, f6⟩ := h.facts c.c c.bs c.be
  have gn := c.n
  refine ⟨ok.p, ?_, ?_⟩
  · cases hp : r.1 with
    | nil => rw [hp] at f1; cases f1
    | cons a b => rw [List.length_cons]; omega
  · rcases h with ⟨rfl, _⟩ | ⟨ks, h1, h2⟩
    · exact (show 1 ≤ 100 by decide)
    · have := good_len ks r.2 s 0 h2
      have := this.2.1 (Nat.zero_le _)
      rw [h1, List.length_cons]
      omega
theorem law_tot (s : DS) : Tot (p_law s) fun r => r.1 = true := by
  unfold p_law
  refine Tot.bind (corridor_t (by decide) s) fun q cq => ?_
  obtain ⟨⟨st, gates, e⟩, s1⟩ := q
  dsimp only at cq ⊢
  refine Tot.bind (taut_t cq.c cq.bs cq.be cq.he cq.hs) fun r hr => ?_
  obtain ⟨hb, hl1, hl2⟩ := hr.pts cq
  have gn := cq.n
  refine Tot.of (mul64 (by decide) (by decide)) ?_
  refine Tot.of (lenN_t (S := 2 * 1000000000) (by decide) (fun p hp => bP_bZ (hb p hp)) hl1 (by omega)) ?_
  refine Tot.bind (strings_t cq s1) fun rows hrows => ?_
  obtain ⟨rows, s2⟩ := rows
  dsimp only at hrows ⊢
  refine Tot.forO (fun xs (_ : Unit) => ∀ row ∈ xs, row ∈ rows) (fun _ => False) (fun r : Bool × DS => False) (fun _ h => h) (fun row xs u hx => ?_) (fun u _ => ?_) fun r h => h.elim
  · obtain ⟨zs, z1, z2, z3, z4⟩ := hrows row (hx row List.mem_cons_self)
    have hbz : ∀ p ∈ row, bZ p := fun p hp => by
      rw [z1] at hp
      rcases List.mem_cons.mp hp with rfl | hp
      · exact bP_2 cq.bs
      · rcases List.mem_append.mp hp with hp | hp
        · exact z4 p hp
        · rw [List.mem_singleton.mp hp]; exact bP_2 cq.be
    have hlen : row.length = gates.length + 2 := by rw [z1, List.length_cons, List.length_append, z2, List.length_singleton]
    refine Tot.of (lenN_t (S := 1000000000) (by decide) hbz (by omega) (by omega)) ?_
    refine Tot.iteF (decide_eq_false ?_) ⟨_, rfl, fun r hr => hx r (List.mem_cons_of_mem _ hr)⟩
    dsimp only
    have e1 : lgL 1000000000 (legs row) = lgs 1000000000 (p2 st) (zs ++ [p2 e]) := by rw [z1, lgs_L]
    rw [e1, hlen]
    rcases hr with ⟨rfl, _⟩ | ⟨ks, h1, h2⟩
    · have := lgs_nn (S := 1000000000) (zs ++ [p2 e]) (p2 st)
      show ¬ _ < (0 : Int)
      omega
    · have gl := good_len ks r.2 st 0 h2
      have gl2 := gl.2.1 (Nat.zero_le _)
      have m := min_all (S := 1000000000) (by decide) cq.c.g cq.be cq.bs h2 (by omega) (by omega) z2 z3
      rw [h1, lgs_L]
      change lgs (2 * 1000000000) st ks ≤ lgs 1000000000 (p2 st) (zs ++ [p2 e]) + _ at m
      generalize lgs (2 * 1000000000) st ks = X at m ⊢
      push_cast
      omega
  · refine Tot.draw (by decide) (by decide) fun v s3 v1 v2 => ?_
    refine Tot.forO (fun xs (_ : Unit) => ∀ x ∈ xs, 0 ≤ x ∧ x ≤ 100000) (fun _ => False) (fun r : Bool × DS => False) (fun x hx => ?_) (fun x xs u hx => ?_) (fun u _ => ⟨_, rfl, rfl⟩) fun r h => h.elim
    · simp only [List.mem_cons, List.not_mem_nil, or_false] at hx
      rcases hx with rfl | rfl | rfl
      · decide
      · decide
      · omega
    · have bx := hx x List.mem_cons_self
      refine Tot.of (bounds_t bx hb hl1 (by omega)) (Tot.of (lenN_t (S := x) (by omega) (fun p hp => bP_bZ (hb p hp)) hl1 (by omega)) (Tot.rngO ⟨by decide, by omega⟩ ?_))
      refine Tot.of (parts_t (S := x) (by omega) (fun p hp => bP_bZ (hb p hp)) hl1 (by omega)) ?_
      refine Tot.of (comp_tt (p := fun y : Int × Bool => !y.2) (f := fun y => y) (by rw [List.length_map, legs_len]; unfold szl; omega)) (Tot.nm (Tot.iteF ?_ ⟨_, rfl, fun y hy => hx y (List.mem_cons_of_mem _ hy)⟩))
      dsimp only
      rw [List.map_id', List.filter_map, List.length_map]
      simp [Function.comp_def]
theorem law_true : ∀ ns : List Int, ns.length ≤ 63 → ∃ h', m_law [.scr (ns.map D.int)] [] = some (.bl true, h') := by
  intro ns hl
  obtain ⟨s, e⟩ := Dr.state_ev ns hl
  obtain ⟨r, e2, h⟩ := law_tot s
  have e3 := q_law (tl := []) (h0 := []) (v_script := .scr (ns.map D.int)) e e2 rfl
  rw [h] at e3
  exact ⟨_, e3⟩
end W
open PySem PySem.W PyProof.Rows
set_option maxRecDepth 100000 in
set_option maxHeartbeats 0 in
theorem PySem.Challenge.cw_footpath_k36_whole_no_string_is_shorter_holds : PySem.Challenge.rw_footpath_k36_whole_no_string_is_shorter.Holds := by
  w_on; o_law
  refine HandSHeadRun.head_any (r := OpenLaw.row PySem.Challenge.rw_footpath_k36_whole_no_string_is_shorter) (q := view (OpenLaw.row PySem.Challenge.rw_footpath_k36_whole_no_string_is_shorter).prog [24]) (H := W.hk_) (ob := W.ob_) (M := 9000) (loose := W.loose_) (d := HandSHeadRun.topDef (OpenLaw.row PySem.Challenge.rw_footpath_k36_whole_no_string_is_shorter).prog 24) (kwd := []) W.ob_eq
    (by kernel_rfl) (fun s => by kernel_rfl) W.run_ (by kernel_rfl) (by kernel_rfl) (by kernel_rfl) (by rfl) (by first | assumption | decide +kernel) (by decide +kernel) ⟨rfl, rfl, rfl, rfl, rfl, by decide +kernel⟩ ?hw ?hc
  case hw => w_witness2
  case hc =>
    refine Mi.walkX (l := PySem.Challenge.rw_footpath_k36_whole_no_string_is_shorter) (k := 5) (x := "_law_script") (mf := W.m_law) rfl (by kernel_rfl) ⟨rfl, by decide, by decide⟩ ?F W.law_true
    intro w mg fa hp Y G hmg0
    obtain ⟨K, KX, c⟩ := Y
    have hmg : mg ("law" : PySem.Str) = some (.ref fa) := by
      have e : (HandSHeadRun.topDef (OpenLaw.row PySem.Challenge.rw_footpath_k36_whole_no_string_is_shorter).prog 24).name = ("law" : PySem.Str) := by kernel_rfl
      rw [← e]
      exact hmg0
    exact W.facts KX G hmg c
