import PyProof.Rows.All
import Wide.All
import OpenK.AllK
import Wide.FinOn
import HandS.ForMost
import HandS.Wide
import HandS.Flow
import HandS.Lambda
import HandS.EndTab
import HandS.IsInst
import HandS.NoneIn
import HandS.Deep
import HandS.Sort
import HandS.TupLen
import HandS.DictComp
import HandS.DeepEq
import PyProof.DictMoreH
import KE.SortCalls
import HandS.Dict
import HandS.Iter
import KE.KDictSum
import KE.KDictCopyH
import KE.KDictExact
import KE.KRevSl
import PyProof.Transfer
import HandS.Style
import KE.DataMinMax
import KE.DatumOrd
import HandS.MakeKwOnly
import PyProof.ReprLen
import HandS.HeadHook4
import HandS.HeadWalk
import KE.SortData
import KE.SortKeyHeap
import HandS.ForExc
import HandS.ExcInit
import HandS.ExcField
import HandS.ExcIs
import HandS.Head2
import KE.KExcIs
import HandS.DictTup
import PySem.Challenge.RW_footpath_k34_cheapest_ways
import KE.KeyNested
import KE.DataCmp
import KE.KDictDisplayH
import HandS.Records
import HandS.Nested
import PyProof.CallFns
set_option Elab.async false
set_option linter.all false
set_option maxRecDepth 100000
set_option maxHeartbeats 1000000
namespace Mi
open PySem PySem.Spec PyProof.Rows L2
structure Cs where
  c : Addr
  p : Addr
  q : Str
def csD (K : PySem.W.Frag) (tf : List (He.Defn × Str)) : List Cs := tf.map fun p => ⟨(He.cT K p.1).1, (He.cT K p.1).2, p.2⟩
open HandSHeadRun in
def newsB : List Nat → Nat → List Nat → Nat × List Nat
  | [], m, acc => (m, acc)
  | a :: r, m, acc => match Nat.beq (Nat.land (Nat.shiftRight m a) 1) 1 with
    | true => newsB r m acc
    | false => frNat (Nat.lor m (Nat.shiftLeft 1 a)) fun m => newsB r m (a :: acc)
def refsB (g : Addr → Option Obj) : List Nat → Nat → List Nat → Nat × List Nat
  | [], m, acc => (m, acc)
  | a :: r, m, acc => match g a with
    | some o => (match newsB (He.refsD o) m acc with | (m, acc) => refsB g r m acc)
    | none => refsB g r m acc
def levB (g : Addr → Option Obj) : Nat → Nat → List Nat → List Nat → List Nat
  | 0, _, _, all => all
  | n + 1, m, front, all => match refsB g front m [] with | (m, f) => levB g n m f (all ++ f)
def adB (g : Addr → Option Obj) (n : Nat) : List Addr := cStatics :: levB g n (Nat.shiftLeft 1 mainGlobals) [mainGlobals] [mainGlobals]
def frL {α β : Type} : List α → (List α → β) → β
  | [], k => k []
  | a :: r, k => frL r fun r => k (a :: r)
theorem frL_eq {α β : Type} : ∀ (l : List α) (k : List α → β), frL l k = k l
  | [], _ => rfl
  | a :: r, k => frL_eq r fun r => k (a :: r)
def obsB (n : Nat) (facts : List He.Fa) (defs : List He.DefD) (tabs : List He.Tab) (lams : List He.Defn) (more : PySem.W.Frag → Bool) (g : Addr → Option Obj) : He.AlX :=
  frL (He.frT g (adB g n)) fun K => (He.obsT facts defs tabs K, more K && He.tabsB g lams K)
theorem saysB {as : List Addr} {facts : List He.Fa} {defs : List He.DefD} {tabs : List He.Tab} {lams : List He.Defn} {more : PySem.W.Frag → Bool} {w : World} {hp : Heap} (q : (He.obsT facts defs tabs (He.frT hp.get? as), more (He.frT hp.get? as) && He.tabsB hp.get? lams (He.frT hp.get? as)) = He.valX defs tabs w) : He.SaysX facts defs tabs lams more w hp (He.frT hp.get? as) := by
  obtain ⟨q1, q2⟩ := Prod.mk.injEq .. ▸ q
  rw [Bool.and_eq_true] at q2
  have each : ∀ p ∈ lams, PySem.W.codeHdIn (He.frT hp.get? as) (He.cT (He.frT hp.get? as) p).1 (He.cT (He.frT hp.get? as) p).2 = true ∧ ∃ o, hp.get? (He.cT (He.frT hp.get? as) p).2 = some o ∧ He.emptyTab o = true := by
    intro p hp'
    have t := List.all_eq_true.mp q2.2 p hp'
    rw [Bool.and_eq_true] at t
    refine ⟨t.1, ?_⟩
    have t2 := t.2
    revert t2
    cases c : hp.get? (He.cT (He.frT hp.get? as) p).2 with
    | none => intro t2; cases t2
    | some o => exact fun t2 => ⟨o, rfl, t2⟩
  constructor
  · exact q1
  · exact q2.1
  · exact fun p m => (each p m).1
  · intro p m
    obtain ⟨o, e1, e2⟩ := (each p m).2
    exact He.frT_none e1 e2
  · intro p m
    obtain ⟨o, e1, e2⟩ := (each p m).2
    rw [e1, He.emptyTab_eq e2]
def hookB (n : Nat) (facts : List He.Fa) (defs : List He.DefD) (tabs : List He.Tab) (lams : List He.Defn) (more : PySem.W.Frag → Bool) : PySem.W.Hook :=
  ⟨He.AlX, fun s => obsB n facts defs tabs lams more s.heap.get?, fun w => He.valX defs tabs w, fun w hp => ∃ K : PySem.W.Frag, K.In hp ∧ He.SaysX facts defs tabs lams more w hp K, fun _ _ q => ⟨_, He.frT_in, saysB ((frL_eq _ _).symm.trans q)⟩, (He.hookX n facts defs tabs lams more).keeps⟩
theorem obsB_eq {n : Nat} {facts : List He.Fa} {defs : List He.DefD} {tabs : List He.Tab} {lams : List He.Defn} {more : PySem.W.Frag → Bool} {g : Addr → Option Obj} {s : Shared} (q : ∀ a, g a = s.heap.get? a) : obsB n facts defs tabs lams more g = (hookB n facts defs tabs lams more).obs s := by
  obtain rfl : g = s.heap.get? := funext q
  rfl
open HandSHeadRun in
def Look {α : Type} (r : PySem.W.OpenRow) (M : Nat) (w : World) (f : PySem.W.SharedT → α) (v : α) : Prop := ∀ os : OsState, (endF (stepQ (denQ tabQ) r.prog w) M r.prog w os).map f = some v
open PySem.W PyProof.Rows HandSHeadRun in
theorem run_of {r : PySem.W.OpenRow} {q : Program} {H : PySem.W.Hook} {ob : PySem.W.SharedT → H.α} {M : Nat} {loose : List Str} {w : World} (h1 : Look r M w (fun s => HandSHeadRun.looksF r.prog (boot_heap w.params) s.abs) true)
    (h2 : Look r M w (fun s => HandSHeadRun.seenQ q loose (importedModules r.prog.main.body) (fun s => PySem.W.xlAt q [] s && PySem.W.recOk r.toRowW.records s) s.abs) (PySem.W.openGood q loose)) (h3 : Look r M w ob (H.val w)) : HandSHeadRun.RunEq r q H ob M loose w := by
  intro os
  obtain ⟨s, hs, e1⟩ := Option.map_eq_some_iff.mp (h1 os)
  have e2 := h2 os
  have e3 := h3 os
  rw [hs] at e2 e3 ⊢
  have e2 := Option.some.inj e2
  have e3 := Option.some.inj e3
  exact congrArg some (Prod.ext e1 (Prod.ext e2 e3))
end Mi
namespace Mi
open PySem PySem.Spec PyProof.Rows L2
/-- data. kt: a written tuple; lst: a list that is not changed any more; scr: the script; ref: an object of the shared heap; own: the object that a slot of the frame owns -/
inductive D where
  | non | bl (b : Bool) | int (i : Int) | str (x : Str)
  | tup (xs : List D) | kt (xs : List D) | lst (xs : List D) | scr (xs : List D)
  | ref (n : Nat) | own (i : Nat)
  | dk (kvs : List (Key × D)) | dt (kvs : List (List Key × D))
  | ins (nm : Str) (fs : List (Str × D))
end Mi
set_option maxRecDepth 100000
namespace W
open PySem L2 Mi
noncomputable section
def top (i : Nat) : Stmt := PySem.Challenge.pw_footpath_k34_cheapest_ways.main.body.getD i (.Pass ⟨0, 0, 0, 0⟩)
abbrev s_law_state : Stmt := top 9
abbrev s_law_draw : Stmt := top 10
abbrev s_law_mesh : Stmt := top 12
abbrev s_law_apart : Stmt := top 14
abbrev s_law_middle : Stmt := top 13
abbrev s_law_least : Stmt := top 16
abbrev s_neighbours : Stmt := top 1
abbrev s_next_open : Stmt := top 6
abbrev s_doubled_middle : Stmt := top 3
abbrev s_apart : Stmt := top 4
abbrev s_cheapest : Stmt := top 7
abbrev s_plates_of : Stmt := top 2
abbrev s_law_pick : Stmt := top 11
abbrev s_law_walk : Stmt := top 17
abbrev s_law_cost : Stmt := top 15
abbrev s_cost : Stmt := top 5
abbrev s_law : Stmt := top 18
end
end W
set_option Elab.async false
set_option linter.all false
set_option maxRecDepth 100000
set_option maxHeartbeats 0
namespace W
open PySem L2 Mi PySem.W
def D_law_state : He.DefD := ⟨("_law_state", none), "_law_state", "_law_state", defArgs s_law_state, defBody s_law_state, defScope s_law_state, [], []⟩
def D_law_draw : He.DefD := ⟨("_law_draw", none), "_law_draw", "_law_draw", defArgs s_law_draw, defBody s_law_draw, defScope s_law_draw, [], []⟩
def D_law_mesh : He.DefD := ⟨("_law_mesh", none), "_law_mesh", "_law_mesh", defArgs s_law_mesh, defBody s_law_mesh, defScope s_law_mesh, [], []⟩
def D_law_apart : He.DefD := ⟨("_law_apart", none), "_law_apart", "_law_apart", defArgs s_law_apart, defBody s_law_apart, defScope s_law_apart, [], []⟩
def D_law_middle : He.DefD := ⟨("_law_middle", none), "_law_middle", "_law_middle", defArgs s_law_middle, defBody s_law_middle, defScope s_law_middle, [], []⟩
def D_law_least : He.DefD := ⟨("_law_least", none), "_law_least", "_law_least", defArgs s_law_least, defBody s_law_least, defScope s_law_least, [], []⟩
def D_neighbours : He.DefD := ⟨("neighbours", none), "neighbours", "neighbours", defArgs s_neighbours, defBody s_neighbours, defScope s_neighbours, [], []⟩
def D_next_open : He.DefD := ⟨("next_open", none), "next_open", "next_open", defArgs s_next_open, defBody s_next_open, defScope s_next_open, [], []⟩
def D_doubled_middle : He.DefD := ⟨("doubled_middle", none), "doubled_middle", "doubled_middle", defArgs s_doubled_middle, defBody s_doubled_middle, defScope s_doubled_middle, [], []⟩
def D_apart : He.DefD := ⟨("apart", none), "apart", "apart", defArgs s_apart, defBody s_apart, defScope s_apart, [], []⟩
def D_cheapest : He.DefD := ⟨("cheapest", none), "cheapest", "cheapest", defArgs s_cheapest, defBody s_cheapest, defScope s_cheapest, [], []⟩
def D_plates_of : He.DefD := ⟨("plates_of", none), "plates_of", "plates_of", defArgs s_plates_of, defBody s_plates_of, defScope s_plates_of, [], []⟩
def D_law_pick : He.DefD := ⟨("_law_pick", none), "_law_pick", "_law_pick", defArgs s_law_pick, defBody s_law_pick, defScope s_law_pick, [], []⟩
def D_law_walk : He.DefD := ⟨("_law_walk", none), "_law_walk", "_law_walk", defArgs s_law_walk, defBody s_law_walk, defScope s_law_walk, [], []⟩
def D_law_cost : He.DefD := ⟨("_law_cost", none), "_law_cost", "_law_cost", defArgs s_law_cost, defBody s_law_cost, defScope s_law_cost, [], []⟩
def D_cost : He.DefD := ⟨("cost", none), "cost", "cost", defArgs s_cost, defBody s_cost, defScope s_cost, [], []⟩
def D_law : He.DefD := ⟨("law", none), "law", "law", defArgs s_law, defBody s_law, defScope s_law, [], []⟩
def fn_ : List He.DefD := [D_law_state, D_law_draw, D_law_mesh, D_law_apart, D_law_middle, D_law_least, D_neighbours, D_next_open, D_doubled_middle, D_apart, D_cheapest, D_plates_of, D_law_pick, D_law_walk, D_law_cost, D_cost, D_law]
def fa_ : List He.Fa := [.glo "_law_state", .glo "_law_draw", .glo "_law_mesh", .glo "_law_apart", .glo "_law_middle", .glo "_law_least", .glo "neighbours", .glo "next_open", .glo "doubled_middle", .glo "apart", .glo "cheapest", .glo "plates_of", .glo "_law_pick", .glo "_law_walk", .glo "_law_cost", .glo "cost", .glo "law", .free "abs", .free "int", .free "isinstance", .free "len", .free "min", .free "range", .free "repr", .free "sorted", .free "sum", .free "tuple"]
def tf_ : List (He.Defn × Str) := []
def ex_ (K : PySem.W.Frag) : Bool := (csD K tf_).all fun z => (csD K tf_).all fun y => !decide (z.p = y.p) || decide (z.q = y.q)
abbrev R_ : PySem.W.OpenRow := PySem.W.OpenLaw.row PySem.Challenge.rw_footpath_k34_cheapest_ways
abbrev hk_ : PySem.W.Hook := Mi.hookB 6 fa_ fn_ [] (tf_.map Prod.fst) ex_
def ob_ (s : PySem.W.SharedT) : He.AlX := Mi.obsB 6 fa_ fn_ [] (tf_.map Prod.fst) ex_ (HandSHeadRun.getT s)
theorem ob_eq (s : PySem.W.SharedT) : ob_ s = hk_.obs s.abs := Mi.obsB_eq (HandSHeadRun.getT_eq s)
def loose_ : List Str := [("neighbours" : Str), ("plates_of" : Str), ("doubled_middle" : Str), ("apart" : Str), ("cost" : Str), ("next_open" : Str), ("cheapest" : Str), ("_law_state" : Str), ("_law_draw" : Str), ("_law_pick" : Str), ("_law_mesh" : Str), ("_law_middle" : Str), ("_law_apart" : Str), ("_law_cost" : Str), ("_law_least" : Str), ("_law_walk" : Str)]
open PyProof.Rows HandSHeadRun in
set_option maxHeartbeats 0 in
theorem runA_ (w : World) : Mi.Look R_ 9000 w (fun s => looksF R_.prog (boot_heap w.params) s.abs) true := by
  intro os
  kernel_rfl
open PyProof.Rows HandSHeadRun in
set_option maxHeartbeats 0 in
theorem runB_ (w : World) : Mi.Look R_ 9000 w (fun s => seenQ (PySem.W.view R_.prog [18]) loose_ (importedModules R_.prog.main.body) (fun s => xlAt (PySem.W.view R_.prog [18]) [] s && recOk R_.toRowW.records s) s.abs) (openGood (PySem.W.view R_.prog [18]) loose_) := by
  intro os
  kernel_rfl
open PyProof.Rows HandSHeadRun in
set_option maxHeartbeats 0 in
theorem runC_ (w : World) : Mi.Look R_ 9000 w (ob_) (hk_.val w) := by
  intro os
  kernel_rfl
set_option maxHeartbeats 0 in
theorem run_ (w : World) : HandSHeadRun.RunEq R_ (PySem.W.view R_.prog [18]) hk_ ob_ 9000 loose_ w := Mi.run_of (runA_ w) (runB_ w) (runC_ w)
end W
set_option Elab.async false
set_option linter.all false
set_option maxRecDepth 100000
namespace Mi
open PySem PySem.Spec PyProof.Rows L2
/-- what the walk knows beside the fragment: the tables of code objects, the classes by name -/
structure Tbs where
  t : List (Addr × Str)
  c : List (Str × Addr)
structure Kx where
  k : PySem.W.Frag
  tb : Tbs
instance : Coe Kx PySem.W.Frag := ⟨Kx.k⟩
@[reducible] def kx (X : Cx) (Tb : Tbs) : Kx := ⟨X.K, Tb⟩
mutual
inductive Rp (K : Kx) (F : Hp) (rho : List Addr) : D → V → Prop
  | non : Rp K F rho .non .non
  | bl (b : Bool) : Rp K F rho (.bl b) (.bl b)
  | int (i : Int) : Rp K F rho (.int i) (.int i)
  | str (x : Str) : Rp K F rho (.str x) (.str x)
  | tup {a : Addr} {xs : List V} {ds : List D} : F a = some (.tup xs) → Rps K F rho ds xs → Rp K F rho (.tup ds) (.ref a)
  | kt {a : Addr} {xs : List V} {ds : List D} : SqT K F a xs → Rps K F rho ds xs → Rp K F rho (.kt ds) (.ref a)
  | lst {a : Addr} {xs : List V} {ds : List D} : F a = some (.lst xs) → Rps K F rho ds xs → Rp K F rho (.lst ds) (.ref a)
  | scr {a : Addr} {xs : List V} {ds : List D} : SqL K F a xs → Rps K F rho ds xs → Rp K F rho (.scr ds) (.ref a)
  | ref {n : Nat} {a : Addr} : rho[n]? = some a → Rp K F rho (.ref n) (.ref a)
  | dk {a : Addr} {es : List (Key × V)} {kvs : List (Key × D)} {o : Obj} : F a = some (.frz o (.dK es)) → es.map Prod.fst = kvs.map Prod.fst → Rps K F rho (kvs.map Prod.snd) (es.map Prod.snd) → Rp K F rho (.dk kvs) (.ref a)
  | dt {a : Addr} {es : List (List Key × V)} {kvs : List (List Key × D)} {o : Obj} : F a = some (.frz o (.dT es)) → es.map Prod.fst = kvs.map Prod.fst → Rps K F rho (kvs.map Prod.snd) (es.map Prod.snd) → Rp K F rho (.dt kvs) (.ref a)
  | ins {nm : Str} {a C dx : Addr} {es : List (Str × V)} {fs : List (Str × D)} : (nm, C) ∈ K.tb.c → F a = some (.ins C dx es) → es.map Prod.fst = fs.map Prod.fst → Rps K F rho (fs.map Prod.snd) (es.map Prod.snd) → Rp K F rho (.ins nm fs) (.ref a)
inductive Rps (K : Kx) (F : Hp) (rho : List Addr) : List D → List V → Prop
  | nil : Rps K F rho [] []
  | cons {d : D} {v : V} {ds : List D} {vs : List V} : Rp K F rho d v → Rps K F rho ds vs → Rps K F rho (d :: ds) (v :: vs)
end
theorem Same.sqt {K : Kx} {H H' : Hp} {a : Addr} {xs : List V} (e : Same H H') (h : SqT K H a xs) : SqT K H' a xs := by
  rcases h with (h | ⟨o, h⟩) | h
  · exact .inl (.inl (e _ _ h))
  · exact .inl (.inr ⟨o, e _ _ h⟩)
  · exact .inr h
section
variable {K : Kx} {F F' : Hp} {rho rho' : List Addr}
theorem pre_get {a : Addr} {n : Nat} (p : rho <+: rho') (h : rho[n]? = some a) : rho'[n]? = some a := by
  obtain ⟨t, rfl⟩ := p
  rw [List.getElem?_append_left (List.getElem?_eq_some_iff.mp h).1]
  exact h
mutual
theorem Rp.mono (e : Same F F') (p : rho <+: rho') : ∀ {d : D} {v : V}, Rp K F rho d v → Rp K F' rho' d v
  | _, _, .non => .non
  | _, _, .bl b => .bl b
  | _, _, .int i => .int i
  | _, _, .str x => .str x
  | _, _, .tup h r => .tup (e _ _ h) (Rps.mono e p r)
  | _, _, .kt h r => .kt (Same.sqt e h) (Rps.mono e p r)
  | _, _, .lst h r => .lst (e _ _ h) (Rps.mono e p r)
  | _, _, .scr h r => .scr (e.seq h) (Rps.mono e p r)
  | _, _, .ref h => .ref (pre_get p h)
  | _, _, .dk h k r => .dk (e _ _ h) k (Rps.mono e p r)
  | _, _, .dt h k r => .dt (e _ _ h) k (Rps.mono e p r)
  | _, _, .ins m h k r => .ins m (e _ _ h) k (Rps.mono e p r)
theorem Rps.mono (e : Same F F') (p : rho <+: rho') : ∀ {ds : List D} {vs : List V}, Rps K F rho ds vs → Rps K F' rho' ds vs
  | _, _, .nil => .nil
  | _, _, .cons h r => .cons (Rp.mono e p h) (Rps.mono e p r)
end
theorem Rps.length : ∀ {ds : List D} {vs : List V}, Rps K F rho ds vs → ds.length = vs.length
  | _, _, .nil => rfl
  | _, _, .cons _ r => by rw [List.length_cons, List.length_cons, Rps.length r]
theorem Rps.get : ∀ {ds : List D} {vs : List V} {i : Nat} {d : D}, Rps K F rho ds vs → ds[i]? = some d → ∃ v, vs[i]? = some v ∧ Rp K F rho d v
  | _, _, _, _, .nil, h => by simp at h
  | _, _, 0, d, .cons r _, h => by
    simp at h
    subst h
    exact ⟨_, rfl, r⟩
  | _, _, i + 1, d, .cons _ r, h => by
    obtain ⟨v, h1, h2⟩ := Rps.get (i := i) (d := d) r (by simpa using h)
    exact ⟨v, by simpa using h1, h2⟩
theorem Rps.append : ∀ {ds es : List D} {vs us : List V}, Rps K F rho ds vs → Rps K F rho es us → Rps K F rho (ds ++ es) (vs ++ us)
  | _, _, _, _, .nil, s => s
  | _, _, _, _, .cons h r, s => .cons h (Rps.append r s)
theorem Rps.one {d : D} {v : V} (h : Rp K F rho d v) : Rps K F rho [d] [v] := .cons h .nil
theorem Rps.set {d : D} {v : V} (h : Rp K F rho d v) : ∀ {ds : List D} {vs : List V} (i : Nat), Rps K F rho ds vs → Rps K F rho (ds.set i d) (vs.set i v)
  | _, _, _, .nil => .nil
  | _, _, 0, .cons _ r => .cons h r
  | _, _, i + 1, .cons q r => .cons q (Rps.set h i r)
theorem Rps.eraseIdx : ∀ {ds : List D} {vs : List V} (i : Nat), Rps K F rho ds vs → Rps K F rho (ds.eraseIdx i) (vs.eraseIdx i)
  | _, _, _, .nil => .nil
  | _, _, 0, .cons _ r => r
  | _, _, i + 1, .cons q r => .cons q (Rps.eraseIdx i r)
theorem Rps.take : ∀ {ds : List D} {vs : List V} (i : Nat), Rps K F rho ds vs → Rps K F rho (ds.take i) (vs.take i)
  | _, _, 0, _ => .nil
  | _, _, _ + 1, .nil => .nil
  | _, _, i + 1, .cons q r => .cons q (Rps.take i r)
theorem Rps.drop : ∀ {ds : List D} {vs : List V} (i : Nat), Rps K F rho ds vs → Rps K F rho (ds.drop i) (vs.drop i)
  | _, _, 0, r => r
  | _, _, _ + 1, .nil => .nil
  | _, _, i + 1, .cons _ r => Rps.drop i r
theorem Rps.reverse : ∀ {ds : List D} {vs : List V}, Rps K F rho ds vs → Rps K F rho ds.reverse vs.reverse
  | _, _, .nil => .nil
  | _, _, .cons h r => by
    rw [List.reverse_cons, List.reverse_cons]
    exact (Rps.reverse r).append (.one h)
theorem Rps.ints : ∀ (ns : List Int), Rps K F rho (ns.map D.int) (ns.map V.int)
  | [] => .nil
  | n :: ns => .cons (.int n) (Rps.ints ns)
end
mutual
def nkD : D → Option NestedKey
  | .int i => some (.num i)
  | .tup ds => match nkDs ds with
    | some ks => some (.tup ks)
    | none => none
  | _ => none
def nkDs : List D → Option (List NestedKey)
  | [] => some []
  | d :: ds => match nkD d, nkDs ds with
    | some k, some ks => some (k :: ks)
    | _, _ => none
end
mutual
def hashI : NestedKey → Int
  | .none => 0
  | .num i => hashInt i
  | .text _ => 0
  | .tup ks => reduceHash (Builtin.Tuple.tupleHashOf (hashIs ks))
def hashIs : List NestedKey → List Int
  | [] => []
  | k :: ks => hashI k :: hashIs ks
end
/-- what is true of the one object of a dict whose keys are the nested tuples at qs, each with True -/
def NkO (a : Addr) (qs : List (NestedKey × Addr)) (h : Heap) : Prop := qs.length ≤ sizeLine ∧ (a == sysModules) = false ∧ ∃ o es ep, h.get? a = some o ∧ o.ExactDict ∧ o.data = .dict es ep ∧
  es.toList = qs.map (fun q => (⟨hashI q.1, .ref q.2, .bool true⟩ : DictEntry)) ∧ (qs.map Prod.fst).Nodup
/-- an object that may be changed, by its content -/
def Ob (K : Kx) (F : Hp) (rho : List Addr) (H : Hp) (a : Addr) : D → Prop
  | .lst ds => ∃ xs, H a = some (.lst xs) ∧ Rps K F rho ds xs
  | .dk kvs => ∃ es : List (Key × V), H a = some (.dK es) ∧ es.map Prod.fst = kvs.map Prod.fst ∧ Rps K F rho (kvs.map Prod.snd) (es.map Prod.snd)
  | .dt kvs => ∃ es : List (List Key × V), H a = some (.dT es) ∧ es.map Prod.fst = kvs.map Prod.fst ∧ Rps K F rho (kvs.map Prod.snd) (es.map Prod.snd)
  | .ins nm fs => ∃ (C dx : Addr) (es : List (Str × V)), (nm, C) ∈ K.tb.c ∧ H a = some (.ins C dx es) ∧ es.map Prod.fst = fs.map Prod.fst ∧ Rps K F rho (fs.map Prod.snd) (es.map Prod.snd)
  | .kt ks => ∃ qs : List (NestedKey × Addr), H a = some (.ext (NkO a qs)) ∧ Rps K F rho ks (qs.map fun q => V.ref q.2) ∧ ks.map nkD = qs.map (fun q => some q.1) ∧ ∀ q ∈ qs, q.1.depth ≤ 8
  | _ => False
/-- a slot of the frame -/
inductive Sl where
  | no | val (d : D) | own (d : D)
/-- the state: the frame's slots, the shared heap -/
structure Z where
  s : List Sl
  h : List D
/-- the tables: each code object that one tells is known for ever -/
structure TbOk (K : Kx) (F H : Hp) : Prop where
  tb : ∀ p ∈ K.tb.t, ∃ ps : Array Value, H p.1 = some (.tbl ps) ∧ TriplesOk ps.toList ∧ ∀ (pos : Pos) (cv : Value), codeAmong pos ps.toList = some cv → ∃ c, cv = .ref c ∧ F c = some (LamX.CodeO c p.2)
  un : ∀ p ∈ K.tb.t, ∀ q ∈ K.tb.t, p.1 = q.1 → p.2 = q.2
  nf : ∀ p ∈ K.tb.t, F p.1 = none
/-- the shared heap -/
structure Rh (K : Kx) (F : Hp) (rho : List Addr) (h : List D) (H : Hp) : Prop where
  fro : Same F H
  len : h.length = rho.length
  obs : ∀ (n : Nat) (d : D) (a : Addr), h[n]? = some d → rho[n]? = some a → Ob K F rho H a d
  inj : ∀ (i j : Nat) (a : Addr), rho[i]? = some a → rho[j]? = some a → i = j
  nf : ∀ (n : Nat) (a : Addr), rho[n]? = some a → F a = none
  tb : TbOk K F H
  tr : ∀ p ∈ K.tb.t, ∀ n : Nat, ¬ rho[n]? = some p.1
/-- the base of a frame (or of a part of it): what may be changed is mu or new -/
structure Bs where
  H0 : Hp
  F0 : Hp
  r0 : List Addr
  mu : Addr → Prop
def SlOk (K : Kx) (F : Hp) (rho : List Addr) (om : Nat → Option Addr) (H : Hp) (i : Nat) (o : Option (Option V)) : Sl → Prop
  | .no => True
  | .val d => ∃ v, o = some (some v) ∧ Rp K F rho d v
  | .own d => ∃ a, om i = some a ∧ o = some (some (.ref a)) ∧ Ob K F rho H a d
/-- no tuple -/
@[reducible] def NT (o : HO) : Prop := ∀ xs, o ≠ .tup xs
structure Rl (K : Kx) (B : Bs) (F : Hp) (rho : List Addr) (om : Nat → Option Addr) (z : Z) (σ : L2.St) (H : Hp) : Prop where
  rh : Rh K F rho z.h H
  len : z.s.length = σ.length
  sl : ∀ (i : Nat) (x : Sl), z.s[i]? = some x → SlOk K F rho om H i σ[i]? x
  oj : ∀ (i j : Nat) (a : Addr), om i = some a → om j = some a → i = j
  orr : ∀ (i n : Nat) (a : Addr), om i = some a → ¬ rho[n]? = some a
  off : ∀ (i : Nat) (a : Addr), om i = some a → F a = none
  oth : ∀ (i : Nat) (a : Addr), om i = some a → ∃ o, H a = some o ∧ NT o
  frm : ∀ (a : Addr) (o : HO), B.H0 a = some o → ¬ B.mu a → H a = some o
  exf : Same B.F0 F
  exr : B.r0 <+: rho
  nF : ∀ (a : Addr) (o : HO), B.H0 a = some o → NT o → B.F0 a = none → ¬ B.mu a → F a = none
  nr : ∀ (n : Nat) (a : Addr), rho[n]? = some a → B.mu a ∨ B.H0 a = none
  no : ∀ (i : Nat) (a : Addr), om i = some a → B.mu a ∨ B.H0 a = none
  ow : ∀ (i : Nat) (a : Addr), om i = some a → ∃ d, z.s[i]? = some (.own d)
  to : ∀ p ∈ K.tb.t, ∀ i : Nat, ¬ om i = some p.1
  mt : ∀ p ∈ K.tb.t, B.mu p.1
/-- a value in passing: it may be the object that a slot owns -/
inductive Rv (K : Kx) (F : Hp) (rho : List Addr) (om : Nat → Option Addr) : D → V → Prop
  | pure {d : D} {v : V} : Rp K F rho d v → Rv K F rho om d v
  | own {i : Nat} {a : Addr} : om i = some a → Rv K F rho om (.own i) (.ref a)
theorem Rv.mono {K : Kx} {F F' : Hp} {rho rho' : List Addr} {om : Nat → Option Addr} (e : Same F F') (p : rho <+: rho') {d : D} {v : V} (h : Rv K F rho om d v) : Rv K F' rho' om d v := by
  cases h with
  | pure h => exact .pure (h.mono e p)
  | own h => exact .own h
section
variable {K : Kx} {B : Bs} {F F' : Hp} {rho rho' : List Addr} {om om' : Nat → Option Addr} {z z' : Z} {σ σ' : L2.St} {H H' : Hp} {a p : Addr} {d : D} {v : V}
theorem Ob.mono (e : Same F F') (q : rho <+: rho') (h1 : H' a = H a) (h : Ob K F rho H a d) : Ob K F' rho' H' a d := by
  cases d <;> try exact h.elim
  · obtain ⟨qs, e1, r, k, l⟩ := h
    exact ⟨qs, h1.trans e1, r.mono e q, k, l⟩
  · obtain ⟨xs, e1, r⟩ := h
    exact ⟨xs, h1.trans e1, r.mono e q⟩
  · obtain ⟨es, e1, k, r⟩ := h
    exact ⟨es, h1.trans e1, k, r.mono e q⟩
  · obtain ⟨es, e1, k, r⟩ := h
    exact ⟨es, h1.trans e1, k, r.mono e q⟩
  · obtain ⟨C, dx, es, m, e1, k, r⟩ := h
    exact ⟨C, dx, es, m, h1.trans e1, k, r.mono e q⟩
theorem Ob.there (h : Ob K F rho H a d) : ∃ o, H a = some o ∧ NT o := by
  cases d <;> try exact h.elim
  · obtain ⟨qs, e1, r⟩ := h
    exact ⟨_, e1, fun _ e => nomatch e⟩
  · obtain ⟨xs, e1, r⟩ := h
    exact ⟨_, e1, fun _ e => nomatch e⟩
  · obtain ⟨es, e1, r⟩ := h
    exact ⟨_, e1, fun _ e => nomatch e⟩
  · obtain ⟨es, e1, r⟩ := h
    exact ⟨_, e1, fun _ e => nomatch e⟩
  · obtain ⟨C, dx, es, m, e1, r⟩ := h
    exact ⟨_, e1, fun _ e => nomatch e⟩
theorem Rh.there (r : Rh K F rho z.h H) {n : Nat} (h : rho[n]? = some a) : ∃ o, H a = some o ∧ NT o := by
  have hl : n < z.h.length := by rw [r.len]; exact (List.getElem?_eq_some_iff.mp h).1
  exact (r.obs n z.h[n] a (List.getElem?_eq_getElem hl) h).there
theorem Rl.fresh0 (R : Rl K B F rho om z σ H) (h : H p = none) : B.H0 p = none ∨ B.mu p := by
  cases q : B.H0 p with
  | none => exact .inl rfl
  | some o =>
    by_cases m : B.mu p
    · exact .inr m
    · rw [R.frm p o q m] at h
      cases h
end
theorem Ob.nt {K : Kx} {F H : Hp} {rho : List Addr} {a : Addr} {d : D} {o : HO} (h : Ob K F rho H a d) (e : H a = some o) : NT o := by
  obtain ⟨o', e', n⟩ := h.there
  rw [e] at e'
  cases e'
  exact n
theorem Same.newu {H : Hp} {p : Addr} {o : HO} (h : H p = none) : Same H (upd H p o) := fun a u e => by
  rw [upd_ne (ne_of_none e h)]
  exact e
theorem Same.both {F H : Hp} {p : Addr} {o : HO} (e : Same F H) (h : H p = none) : Same (upd F p o) (upd H p o) := fun a u q => by
  by_cases c : a = p
  · subst c
    rw [upd_same] at q
    rw [upd_same]
    exact q
  · rw [upd_ne c] at q
    rw [upd_ne c]
    exact e _ _ q
theorem Same.upd_out {F H : Hp} {p : Addr} {o : HO} (e : Same F H) (h : F p = none) : Same F (upd H p o) := fun a u q => by
  rw [upd_ne (ne_of_none q h)]
  exact e _ _ q
end Mi
set_option Elab.async false
set_option linter.all false
set_option maxRecDepth 100000
namespace Mi
open PySem PySem.Spec PyProof.Rows L2
/-- an object that is there, of which nobody knows -/
structure Fresh (K : Kx) (B : Bs) (F : Hp) (rho : List Addr) (om : Nat → Option Addr) (H : Hp) (p : Addr) : Prop where
  f : F p = none
  r : ∀ n : Nat, ¬ rho[n]? = some p
  o : ∀ i : Nat, ¬ om i = some p
  b : B.mu p ∨ B.H0 p = none
  t : ∃ u, H p = some u ∧ NT u
  k : ∀ q ∈ K.tb.t, ¬ q.1 = p
def omSet (om : Nat → Option Addr) (i : Nat) (x : Option Addr) : Nat → Option Addr := fun j => if j = i then x else om j
theorem omSet_eq {om : Nat → Option Addr} {i : Nat} {x : Option Addr} : omSet om i x i = x := if_pos rfl
theorem omSet_ne {om : Nat → Option Addr} {i j : Nat} {x : Option Addr} (h : ¬ j = i) : omSet om i x j = om j := if_neg h
theorem omSet_none {om : Nat → Option Addr} {i j : Nat} {a : Addr} (h : omSet om i none j = some a) : ¬ j = i ∧ om j = some a := by
  by_cases c : j = i
  · subst c
    rw [omSet_eq] at h
    cases h
  · rw [omSet_ne c] at h
    exact ⟨c, h⟩
section
variable {K : Kx} {B : Bs} {F F' : Hp} {rho rho' : List Addr} {om om' : Nat → Option Addr} {z z' : Z} {σ σ' : L2.St} {H H' : Hp} {a p : Addr} {d : D} {v : V} {o : HO}
theorem SlOk.mono {i : Nat} {o : Option (Option V)} {x : Sl} (e : Same F F') (q : rho <+: rho') (h : SlOk K F rho om H i o x) (hk : ∀ a, om i = some a → H' a = H a) (ho : om' i = om i) : SlOk K F' rho' om' H' i o x := by
  cases x with
  | no => trivial
  | val d =>
    obtain ⟨v, e1, r⟩ := h
    exact ⟨v, e1, r.mono e q⟩
  | own d =>
    obtain ⟨a, e1, e2, r⟩ := h
    exact ⟨a, ho.trans e1, e2, r.mono e q (hk a e1)⟩
theorem Rh.mono1 {h : List D} (r : Rh K F rho h H) (e : Same F F') (fro : Same F' H') (hk : ∀ (n : Nat) a, rho[n]? = some a → H' a = H a) (nf : ∀ (n : Nat) a, rho[n]? = some a → F' a = none) (tb : TbOk K F' H') : Rh K F' rho h H' :=
  ⟨fro, r.len, fun n d a h1 h2 => (r.obs n d a h1 h2).mono e (List.prefix_refl _) (hk n a h2), r.inj, nf, tb, r.tr⟩
theorem TbOk.mono (t : TbOk K F H) (e : Same F F') (hk : ∀ p ∈ K.tb.t, H' p.1 = H p.1) (hf : ∀ p ∈ K.tb.t, F' p.1 = none) : TbOk K F' H' := by
  refine ⟨fun p hp => ?_, t.un, hf⟩
  obtain ⟨ps, h1, h2, h3⟩ := t.tb p hp
  refine ⟨ps, (hk p hp).trans h1, h2, fun pos cv hc => ?_⟩
  obtain ⟨c, e1, e2⟩ := h3 pos cv hc
  exact ⟨c, e1, e _ _ e2⟩
theorem TbOk.there (t : TbOk K F H) {q : Addr × Str} (hq : q ∈ K.tb.t) : ∃ o, H q.1 = some o := by
  obtain ⟨ps, h1, _⟩ := t.tb q hq
  exact ⟨_, h1⟩
theorem TbOk.ne (t : TbOk K F H) (h : H p = none) : ∀ q ∈ K.tb.t, ¬ q.1 = p := fun q hq e => by
  obtain ⟨u, hu⟩ := t.there hq
  rw [e, h] at hu
  cases hu
/-- what is not there is nobody's -/
theorem Rl.out (R : Rl K B F rho om z σ H) (h : H p = none) : F p = none ∧ (∀ n : Nat, ¬ rho[n]? = some p) ∧ (∀ i : Nat, ¬ om i = some p) ∧ (B.mu p ∨ B.H0 p = none) ∧ (∀ q ∈ K.tb.t, ¬ q.1 = p) := by
  refine ⟨R.rh.fro.free h, fun n e => ?_, fun i e => ?_, (R.fresh0 h).symm, R.rh.tb.ne h⟩
  · obtain ⟨u, q, _⟩ := R.rh.there (z := z) e
    rw [h] at q
    cases q
  · obtain ⟨u, q, _⟩ := R.oth i p e
    rw [h] at q
    cases q
/-- a new object, known to nobody -/
theorem Rl.new (R : Rl K B F rho om z σ H) (h : H p = none) (hn : NT o := by exact fun _ e => nomatch e) : Rl K B F rho om z σ (upd H p o) ∧ Fresh K B F rho om (upd H p o) p := by
  obtain ⟨h1, h2, h3, h4, h5⟩ := R.out h
  have nr : ∀ (n : Nat) a, rho[n]? = some a → a ≠ p := fun n a e q => h2 n (by rw [← q]; exact e)
  have no : ∀ (i : Nat) a, om i = some a → a ≠ p := fun i a e q => h3 i (by rw [← q]; exact e)
  refine ⟨⟨R.rh.mono1 (fun _ _ e => e) (Same.upd_out R.rh.fro h1) (fun n a e => upd_ne (nr n a e)) R.rh.nf (R.rh.tb.mono (fun _ _ e => e) (fun q hq => upd_ne (h5 q hq)) R.rh.tb.nf), R.len, fun i x e => (R.sl i x e).mono (fun _ _ e => e) (List.prefix_refl _) (fun a e => upd_ne (no i a e)) rfl, R.oj, R.orr, R.off,
    fun i a e => by rw [upd_ne (no i a e)]; exact R.oth i a e, fun a u e m => ?_, R.exf, R.exr, R.nF, R.nr, R.no, R.ow, R.to, R.mt⟩, ⟨h1, h2, h3, h4, ⟨_, upd_same, hn⟩, h5⟩⟩
  have q := R.frm a u e m
  rw [upd_ne (ne_of_none q h)]
  exact q
/-- a known object of nobody's is laid down for ever -/
theorem Rl.lay (R : Rl K B F rho om z σ H) (h : Fresh K B F rho om H p) (hp : H p = some o) : Rl K B (upd F p o) rho om z σ H ∧ Same F (upd F p o) := by
  have nr : ∀ (n : Nat) a, rho[n]? = some a → a ≠ p := fun n a e q => h.r n (by rw [← q]; exact e)
  have no : ∀ (i : Nat) a, om i = some a → a ≠ p := fun i a e q => h.o i (by rw [← q]; exact e)
  have s1 : Same F (upd F p o) := Same.newu h.f
  refine ⟨⟨R.rh.mono1 s1 (fun a u e => ?_) (fun _ _ _ => rfl) (fun n a e => by rw [upd_ne (nr n a e)]; exact R.rh.nf n a e) (R.rh.tb.mono s1 (fun _ _ => rfl) fun q hq => by rw [upd_ne (h.k q hq)]; exact R.rh.tb.nf q hq), R.len, fun i x e => (R.sl i x e).mono s1 (List.prefix_refl _) (fun _ _ => rfl) rfl, R.oj, R.orr,
    fun i a e => by rw [upd_ne (no i a e)]; exact R.off i a e, R.oth, R.frm, R.exf.trans s1, R.exr, fun a u e1 nt e2 m' => ?_, R.nr, R.no, R.ow, R.to, R.mt⟩, s1⟩
  · by_cases c : a = p
    · subst c
      rw [upd_same] at e
      rw [hp]
      exact e
    · rw [upd_ne c] at e
      exact R.rh.fro a u e
  · have c : a ≠ p := fun c => by
      subst c
      rcases h.b with q | q
      · exact m' q
      · rw [q] at e1
        cases e1
    rw [upd_ne c]
    exact R.nF a u e1 nt e2 m'
/-- a tuple that stands is known from now on -/
theorem Rl.layT {xs : List V} (R : Rl K B F rho om z σ H) (hp : H p = some (.tup xs)) : ∃ F', Rl K B F' rho om z σ H ∧ Same F F' ∧ F' p = some (.tup xs) ∧ ∀ a o, H a = some o → NT o → F a = none → F' a = none := by
  cases hf : F p with
  | some o =>
    have e := R.rh.fro _ _ hf
    rw [hp] at e
    cases e
    exact ⟨F, R, Same.refl F, hf, fun _ _ _ _ n => n⟩
  | none =>
    have nr : ∀ (n : Nat) a, rho[n]? = some a → a ≠ p := fun n a e c => by
      obtain ⟨u, q, nt⟩ := R.rh.there (z := z) e
      rw [c, hp] at q
      cases q
      exact nt _ rfl
    have no : ∀ (i : Nat) a, om i = some a → a ≠ p := fun i a e c => by
      obtain ⟨u, q, nt⟩ := R.oth i a e
      rw [c, hp] at q
      cases q
      exact nt _ rfl
    have nk : ∀ q ∈ K.tb.t, q.1 ≠ p := fun q hq c => by
      obtain ⟨ps, h1, _⟩ := R.rh.tb.tb q hq
      rw [c, hp] at h1
      cases h1
    have s1 : Same F (upd F p (.tup xs)) := Same.newu hf
    refine ⟨_, ⟨R.rh.mono1 s1 (fun a u e => ?_) (fun _ _ _ => rfl) (fun n a e => by rw [upd_ne (nr n a e)]; exact R.rh.nf n a e) (R.rh.tb.mono s1 (fun _ _ => rfl) fun q hq => by rw [upd_ne (nk q hq)]; exact R.rh.tb.nf q hq), R.len, fun i x e => (R.sl i x e).mono s1 (List.prefix_refl _) (fun _ _ => rfl) rfl, R.oj, R.orr,
      fun i a e => by rw [upd_ne (no i a e)]; exact R.off i a e, R.oth, R.frm, R.exf.trans s1, R.exr, fun a u e1 nt e2 m => ?_, R.nr, R.no, R.ow, R.to, R.mt⟩, s1, upd_same, fun a o e nt n => ?_⟩
    · by_cases c : a = p
      · subst c
        rw [upd_same] at e
        rw [hp]
        exact e
      · rw [upd_ne c] at e
        exact R.rh.fro a u e
    · have c : a ≠ p := fun c => by
        have q := R.frm a u e1 m
        rw [c, hp] at q
        cases q
        exact nt _ rfl
      rw [upd_ne c]
      exact R.nF a u e1 nt e2 m
    · have c : a ≠ p := fun c => by
        rw [c, hp] at e
        cases e
        exact nt _ rfl
      rw [upd_ne c]
      exact n
/-- .. at once -/
theorem Rl.alloc (R : Rl K B F rho om z σ H) (h : H p = none) : ∃ F', Rl K B F' rho om z σ (upd H p o) ∧ Same F F' ∧ F' p = some o := by
  obtain ⟨h1, h2, h3, h4, h5⟩ := R.out h
  have nr : ∀ (n : Nat) a, rho[n]? = some a → a ≠ p := fun n a e q => h2 n (by rw [← q]; exact e)
  have no : ∀ (i : Nat) a, om i = some a → a ≠ p := fun i a e q => h3 i (by rw [← q]; exact e)
  have s1 : Same F (upd F p o) := Same.newu h1
  refine ⟨upd F p o, ⟨R.rh.mono1 s1 (Same.both R.rh.fro h) (fun n a e => upd_ne (nr n a e)) (fun n a e => by rw [upd_ne (nr n a e)]; exact R.rh.nf n a e) (R.rh.tb.mono s1 (fun q hq => upd_ne (h5 q hq)) fun q hq => by rw [upd_ne (h5 q hq)]; exact R.rh.tb.nf q hq), R.len, fun i x e => (R.sl i x e).mono s1 (List.prefix_refl _) (fun a e => upd_ne (no i a e)) rfl, R.oj, R.orr,
    fun i a e => by rw [upd_ne (no i a e)]; exact R.off i a e, fun i a e => by rw [upd_ne (no i a e)]; exact R.oth i a e, fun a u e m => ?_, R.exf.trans s1, R.exr, fun a u e1 nt e2 m => ?_, R.nr, R.no, R.ow, R.to, R.mt⟩, s1, upd_same⟩
  · have q := R.frm a u e m
    rw [upd_ne (ne_of_none q h)]
    exact q
  · have q := R.frm a u e1 m
    rw [upd_ne (ne_of_none q h)]
    exact R.nF a u e1 nt e2 m
/-- a slot is set to a value -/
theorem Rl.setVal (R : Rl K B F rho om z σ H) (i : Nat) (r : Rp K F rho d v) : Rl K B F rho (omSet om i none) ⟨z.s.set i (.val d), z.h⟩ (σ.set i (some v)) H := by
  refine ⟨R.rh, by simp only [List.length_set]; exact R.len, fun j x e => ?_, fun a b c e1 e2 => R.oj a b c (omSet_none e1).2 (omSet_none e2).2, fun a b c e => R.orr a b c (omSet_none e).2, fun a c e => R.off a c (omSet_none e).2, fun a c e => R.oth a c (omSet_none e).2,
    R.frm, R.exf, R.exr, R.nF, R.nr, fun a c e => R.no a c (omSet_none e).2, fun j a e => by
      obtain ⟨c, e⟩ := omSet_none e
      obtain ⟨d', q⟩ := R.ow j a e
      exact ⟨d', by rw [← q]; exact List.getElem?_set_ne (Ne.symm c)⟩, fun p hp j e => R.to p hp j (omSet_none e).2, R.mt⟩
  have e : (z.s.set i (.val d))[j]? = some x := e
  by_cases c : j = i
  · subst c
    have hl : j < z.s.length := by
      have := (List.getElem?_eq_some_iff.mp e).1
      simpa using this
    rw [List.getElem?_set_self hl] at e
    cases e
    exact ⟨v, List.getElem?_set_self (by rw [← R.len]; exact hl), r⟩
  · rw [List.getElem?_set_ne (Ne.symm c)] at e
    rw [List.getElem?_set_ne (Ne.symm c)]
    exact (R.sl j x e).mono (fun _ _ e => e) (List.prefix_refl _) (fun _ _ => rfl) (omSet_ne c)
/-- a slot takes an object of nobody's -/
theorem Rl.setOwn (R : Rl K B F rho om z σ H) (i : Nat) (hi : i < z.s.length) (h : Fresh K B F rho om H p) (r : Ob K F rho H p d) : Rl K B F rho (omSet om i (some p)) ⟨z.s.set i (.own d), z.h⟩ (σ.set i (some (.ref p))) H := by
  have cs : ∀ {j : Nat} {a : Addr}, omSet om i (some p) j = some a → (j = i ∧ a = p) ∨ (¬ j = i ∧ om j = some a) := fun {j a} e => by
    by_cases c : j = i
    · subst c
      rw [omSet_eq] at e
      cases e
      exact .inl ⟨rfl, rfl⟩
    · rw [omSet_ne c] at e
      exact .inr ⟨c, e⟩
  refine ⟨R.rh, by simp only [List.length_set]; exact R.len, fun j x e => ?_, fun a b c e1 e2 => ?_, fun a b c e => ?_, fun a c e => ?_, fun a c e => ?_, R.frm, R.exf, R.exr, R.nF, R.nr, fun a c e => ?_, fun j a e => ?_, fun q hq j e => ?_, R.mt⟩
  · have e : (z.s.set i (.own d))[j]? = some x := e
    by_cases c : j = i
    · subst c
      have hl : j < z.s.length := by
        have := (List.getElem?_eq_some_iff.mp e).1
        simpa using this
      rw [List.getElem?_set_self hl] at e
      cases e
      exact ⟨p, omSet_eq, List.getElem?_set_self (by rw [← R.len]; exact hl), r⟩
    · rw [List.getElem?_set_ne (Ne.symm c)] at e
      rw [List.getElem?_set_ne (Ne.symm c)]
      exact (R.sl j x e).mono (fun _ _ e => e) (List.prefix_refl _) (fun _ _ => rfl) (omSet_ne c)
  · rcases cs e1 with ⟨rfl, rfl⟩ | ⟨n1, q1⟩
    · rcases cs e2 with ⟨rfl, _⟩ | ⟨n2, q2⟩
      · rfl
      · exact absurd q2 (h.o b)
    · rcases cs e2 with ⟨rfl, rfl⟩ | ⟨n2, q2⟩
      · exact absurd q1 (h.o a)
      · exact R.oj a b c q1 q2
  · rcases cs e with ⟨rfl, rfl⟩ | ⟨n1, q1⟩
    · exact h.r b
    · exact R.orr a b c q1
  · rcases cs e with ⟨rfl, rfl⟩ | ⟨n1, q1⟩
    · exact h.f
    · exact R.off a c q1
  · rcases cs e with ⟨rfl, rfl⟩ | ⟨n1, q1⟩
    · exact h.t
    · exact R.oth a c q1
  · rcases cs e with ⟨rfl, rfl⟩ | ⟨n1, q1⟩
    · exact h.b
    · exact R.no a c q1
  · rcases cs e with ⟨rfl, rfl⟩ | ⟨n1, q1⟩
    · exact ⟨d, List.getElem?_set_self hi⟩
    · obtain ⟨d', q⟩ := R.ow j a q1
      exact ⟨d', by rw [← q]; exact List.getElem?_set_ne (Ne.symm n1)⟩
  · rcases cs e with ⟨_, q2⟩ | ⟨_, q2⟩
    · exact h.k q hq q2
    · exact R.to q hq j q2
/-- what a slot owns is nobody else's -/
theorem Rl.freshOwn (R : Rl K B F rho om z σ H) {i : Nat} (e : om i = some p) : Fresh K B F rho (omSet om i none) H p :=
  ⟨R.off i p e, fun n => R.orr i n p e, fun j q => (omSet_none q).1 (R.oj j i p (omSet_none q).2 e), R.no i p e, R.oth i p e, fun q hq c => R.to q hq i (by rw [c]; exact e)⟩
/-- a slot forgets -/
theorem Rl.forget (R : Rl K B F rho om z σ H) (i : Nat) : Rl K B F rho (omSet om i none) ⟨z.s.set i .no, z.h⟩ σ H := by
  refine ⟨R.rh, by simp only [List.length_set]; exact R.len, fun j x e => ?_, fun a b c e1 e2 => R.oj a b c (omSet_none e1).2 (omSet_none e2).2, fun a b c e => R.orr a b c (omSet_none e).2, fun a c e => R.off a c (omSet_none e).2, fun a c e => R.oth a c (omSet_none e).2,
    R.frm, R.exf, R.exr, R.nF, R.nr, fun a c e => R.no a c (omSet_none e).2, fun j a e => by
      obtain ⟨c, e⟩ := omSet_none e
      obtain ⟨d', q⟩ := R.ow j a e
      exact ⟨d', by rw [← q]; exact List.getElem?_set_ne (Ne.symm c)⟩, fun p hp j e => R.to p hp j (omSet_none e).2, R.mt⟩
  have e : (z.s.set i .no)[j]? = some x := e
  by_cases c : j = i
  · subst c
    have hl : j < z.s.length := by
      have := (List.getElem?_eq_some_iff.mp e).1
      simpa using this
    rw [List.getElem?_set_self hl] at e
    cases e
    trivial
  · rw [List.getElem?_set_ne (Ne.symm c)] at e
    exact (R.sl j x e).mono (fun _ _ e => e) (List.prefix_refl _) (fun _ _ => rfl) (omSet_ne c)
/-- a slot's object is changed -/
theorem Rl.mutOwn (R : Rl K B F rho om z σ H) {i : Nat} {d0 : D} (e : om i = some p) (hs : z.s[i]? = some (.own d0)) (r : Ob K F rho (upd H p o) p d) : Rl K B F rho om ⟨z.s.set i (.own d), z.h⟩ σ (upd H p o) := by
  have nr : ∀ (n : Nat) a, rho[n]? = some a → a ≠ p := fun n a q c => R.orr i n p e (by rw [← c]; exact q)
  have no : ∀ (j : Nat) a, ¬ j = i → om j = some a → a ≠ p := fun j a c q c2 => c (R.oj j i p (by rw [← c2]; exact q) e)
  refine ⟨R.rh.mono1 (fun _ _ e => e) (Same.upd_out R.rh.fro (R.off i p e)) (fun n a q => upd_ne (nr n a q)) R.rh.nf (R.rh.tb.mono (fun _ _ e => e) (fun q hq => upd_ne fun c => R.to q hq i (by rw [c]; exact e)) R.rh.tb.nf), by simp only [List.length_set]; exact R.len, fun j x q => ?_, R.oj, R.orr, R.off, fun j a q => ?_, fun a u q m => ?_, R.exf, R.exr, R.nF, R.nr, R.no, fun j a q => ?_, R.to, R.mt⟩
  · have q : (z.s.set i (.own d))[j]? = some x := q
    by_cases c : j = i
    · subst c
      have hl : j < z.s.length := (List.getElem?_eq_some_iff.mp hs).1
      rw [List.getElem?_set_self hl] at q
      cases q
      obtain ⟨a, e1, e2, _⟩ := R.sl j _ hs
      rw [e] at e1
      cases e1
      exact ⟨p, e, e2, r⟩
    · rw [List.getElem?_set_ne (Ne.symm c)] at q
      exact (R.sl j x q).mono (fun _ _ e => e) (List.prefix_refl _) (fun a h => upd_ne (no j a c h)) rfl
  · by_cases c : a = p
    · subst c
      exact ⟨_, upd_same, r.nt upd_same⟩
    · rw [upd_ne c]
      exact R.oth j a q
  · have c : a ≠ p := fun c => by
      subst c
      rcases R.no i a e with h | h
      · exact m h
      · rw [h] at q
        cases q
    rw [upd_ne c]
    exact R.frm a u q m
  · by_cases c : j = i
    · subst c
      exact ⟨d, List.getElem?_set_self (List.getElem?_eq_some_iff.mp hs).1⟩
    · obtain ⟨d', q2⟩ := R.ow j a q
      exact ⟨d', by rw [← q2]; exact List.getElem?_set_ne (Ne.symm c)⟩
/-- an object of the shared heap is changed -/
theorem Rl.mutRef (R : Rl K B F rho om z σ H) {n : Nat} (e : rho[n]? = some p) (r : Ob K F rho (upd H p o) p d) : Rl K B F rho om ⟨z.s, z.h.set n d⟩ σ (upd H p o) := by
  have no : ∀ (j : Nat) a, om j = some a → a ≠ p := fun j a q c => R.orr j n p (by rw [← c]; exact q) e
  have hn : n < z.h.length := by rw [R.rh.len]; exact (List.getElem?_eq_some_iff.mp e).1
  refine ⟨⟨Same.upd_out R.rh.fro (R.rh.nf n p e), by simp only [List.length_set]; exact R.rh.len, fun m d' a h1 h2 => ?_, R.rh.inj, R.rh.nf, R.rh.tb.mono (fun _ _ e => e) (fun q hq => upd_ne fun c => R.rh.tr q hq n (by rw [c]; exact e)) R.rh.tb.nf, R.rh.tr⟩, R.len, fun j x q => (R.sl j x q).mono (fun _ _ e => e) (List.prefix_refl _) (fun a h => upd_ne (no j a h)) rfl, R.oj, R.orr, R.off,
    fun j a q => by rw [upd_ne (no j a q)]; exact R.oth j a q, fun a u q m => ?_, R.exf, R.exr, R.nF, R.nr, R.no, R.ow, R.to, R.mt⟩
  · by_cases c : m = n
    · subst c
      rw [List.getElem?_set_self hn] at h1
      cases h1
      rw [e] at h2
      cases h2
      exact r
    · rw [List.getElem?_set_ne (Ne.symm c)] at h1
      have ca : a ≠ p := fun q => c (R.rh.inj m n p (by rw [← q]; exact h2) e)
      exact (R.rh.obs m d' a h1 h2).mono (fun _ _ e => e) (List.prefix_refl _) (upd_ne ca)
  · have c : a ≠ p := fun c => by
      subst c
      rcases R.nr n a e with h | h
      · exact m h
      · rw [h] at q
        cases q
    rw [upd_ne c]
    exact R.frm a u q m
/-- an object of nobody's joins the shared heap -/
theorem Rl.share (R : Rl K B F rho om z σ H) (h : Fresh K B F rho om H p) (r : Ob K F rho H p d) : Rl K B F (rho ++ [p]) om ⟨z.s, z.h ++ [d]⟩ σ H ∧ (rho ++ [p])[z.h.length]? = some p := by
  have px : rho <+: rho ++ [p] := List.prefix_append _ _
  have last : (rho ++ [p])[z.h.length]? = some p := by rw [R.rh.len, List.getElem?_append_right (Nat.le_refl _), Nat.sub_self]; rfl
  have cs : ∀ {n : Nat} {a : Addr}, (rho ++ [p])[n]? = some a → rho[n]? = some a ∨ (n = rho.length ∧ a = p) := fun {n a} e => by
    rcases Nat.lt_trichotomy n rho.length with c | c | c
    · rw [List.getElem?_append_left c] at e
      exact .inl e
    · subst c
      rw [List.getElem?_append_right (Nat.le_refl _), Nat.sub_self] at e
      exact .inr ⟨rfl, (Option.some.inj e).symm⟩
    · rw [List.getElem?_append_right (Nat.le_of_lt c)] at e
      have : 1 ≤ n - rho.length := by omega
      rw [List.getElem?_eq_none (by simpa using this)] at e
      cases e
  refine ⟨⟨⟨R.rh.fro, by simp only [List.length_append, List.length_singleton]; rw [R.rh.len], fun n d' a h1 h2 => ?_, fun i j a h1 h2 => ?_, fun n a h1 => ?_, R.rh.tb, fun q hq n e => ?_⟩, R.len, fun j x q => (R.sl j x q).mono (fun _ _ e => e) px (fun _ _ => rfl) rfl, R.oj, fun i n a q e => ?_, R.off, R.oth, R.frm, R.exf, R.exr.trans px, R.nF, fun n a q => ?_, R.no, R.ow, R.to, R.mt⟩, last⟩
  · rcases cs h2 with q | ⟨q, rfl⟩
    · have hl : n < z.h.length := by rw [R.rh.len]; exact (List.getElem?_eq_some_iff.mp q).1
      rw [List.getElem?_append_left hl] at h1
      exact (R.rh.obs n d' a h1 q).mono (fun _ _ e => e) px rfl
    · subst q
      rw [← R.rh.len, List.getElem?_append_right (Nat.le_refl _), Nat.sub_self] at h1
      cases (show some d = some d' from h1)
      exact r.mono (fun _ _ e => e) px rfl
  · rcases cs h1 with q | ⟨q, rfl⟩
    · rcases cs h2 with q2 | ⟨q2, rfl⟩
      · exact R.rh.inj i j a q q2
      · exact absurd q (h.r i)
    · rcases cs h2 with q2 | ⟨q2, _⟩
      · exact absurd q2 (h.r j)
      · omega
  · rcases cs h1 with q | ⟨_, rfl⟩
    · exact R.rh.nf n a q
    · exact h.f
  · rcases cs e with q2 | ⟨_, q2⟩
    · exact R.rh.tr q hq n q2
    · exact h.k q hq q2
  · rcases cs e with q2 | ⟨_, rfl⟩
    · exact R.orr i n a q q2
    · exact h.o i q
  · rcases cs q with q2 | ⟨_, rfl⟩
    · exact R.nr n a q2
    · exact h.b
/-- the heap as it stands, as a base -/
def reb (K : Kx) (F : Hp) (rho : List Addr) (om : Nat → Option Addr) (H : Hp) : Bs := ⟨H, F, rho, fun a => ((∃ i : Nat, om i = some a) ∨ ∃ n : Nat, rho[n]? = some a) ∨ ∃ p ∈ K.tb.t, p.1 = a⟩
theorem Rl.reb (R : Rl K B F rho om z σ H) : Rl K (reb K F rho om H) F rho om z σ H :=
  ⟨R.rh, R.len, R.sl, R.oj, R.orr, R.off, R.oth, fun _ _ e _ => e, fun _ _ e => e, List.prefix_refl _, fun _ _ _ _ e _ => e, fun n a e => .inl (.inl (.inr ⟨n, e⟩)), fun i a e => .inl (.inl (.inl ⟨i, e⟩)), R.ow, R.to, fun p hp => .inr ⟨p, hp, rfl⟩⟩
/-- back to the base before -/
theorem Rl.back (R : Rl K B F rho om z σ H) (S : Rl K (Mi.reb K F rho om H) F' rho' om' z' σ' H') : Rl K B F' rho' om' z' σ' H' := by
  have notmu : ∀ a u, B.H0 a = some u → ¬ B.mu a → ¬ (((∃ i : Nat, om i = some a) ∨ ∃ n : Nat, rho[n]? = some a) ∨ ∃ p ∈ K.tb.t, p.1 = a) := fun a u e m q => by
    rcases q with (⟨i, q⟩ | ⟨n, q⟩) | ⟨p, hp, rfl⟩
    · rcases R.no i a q with h | h
      · exact m h
      · rw [h] at e
        cases e
    · rcases R.nr n a q with h | h
      · exact m h
      · rw [h] at e
        cases e
    · exact m (R.mt p hp)
  have old : ∀ a, (Mi.reb K F rho om H).mu a ∨ (Mi.reb K F rho om H).H0 a = none → B.mu a ∨ B.H0 a = none := fun a q => by
    rcases q with ((⟨i, q⟩ | ⟨n, q⟩) | ⟨p, hp, rfl⟩) | q
    · exact R.no i a q
    · exact R.nr n a q
    · exact .inl (R.mt p hp)
    · exact (R.fresh0 q).symm
  refine ⟨S.rh, S.len, S.sl, S.oj, S.orr, S.off, S.oth, fun a u e m => S.frm a u (R.frm a u e m) (notmu a u e m), R.exf.trans S.exf, R.exr.trans S.exr, fun a u e1 nt e2 m => S.nF a u (R.frm a u e1 m) nt (R.nF a u e1 nt e2 m) (notmu a u e1 m), fun n a q => old a (S.nr n a q), fun i a q => old a (S.no i a q), S.ow, S.to, R.mt⟩
/-- through a part of an evaluation an object of nobody's stays as it was -/
theorem Fresh.through (f : Fresh K B F rho om H p) (S : Rl K (Mi.reb K F rho om H) F' rho' om' z' σ' H') (hb : ∀ i, om' i = some p → om i = some p) : Fresh K B F' rho' om' H' p ∧ H' p = H p := by
  obtain ⟨u, hu, nt⟩ := f.t
  have nm : ¬ (Mi.reb K F rho om H).mu p := fun q => by
    rcases q with (⟨i, q⟩ | ⟨n, q⟩) | ⟨q, hq, c⟩
    · exact f.o i q
    · exact f.r n q
    · exact f.k q hq c
  have e := S.frm p u hu nm
  refine ⟨⟨S.nF p u hu nt f.f nm, fun n q => ?_, fun i q => f.o i (hb i q), f.b, ⟨u, e, nt⟩, f.k⟩, e.trans hu.symm⟩
  rcases S.nr n p q with q | q
  · exact nm q
  · have q : H p = none := q
    rw [hu] at q
    cases q
end
/-- what a def does: the arguments and the shared heap go to a value and a heap, or it is not told -/
abbrev Fn := List D → List D → Option (D × List D)
def spM (n : Nat) (K : Kx) (mf : Fn) : Sp := fun vs H Q _ => vs.length = n ∧ ∃ (F : Hp) (rho : List Addr) (h : List D) (ds : List D), Rh K F rho h H ∧ Rps K F rho ds vs ∧ ∃ (d : D) (h' : List D), mf ds h = some (d, h') ∧
  ∀ (F' : Hp) (rho' : List Addr) (H' : Hp) (v : V), Same F F' → rho <+: rho' → Rh K F' rho' h' H' → (∀ a o, H a = some o → (∀ n : Nat, ¬ rho[n]? = some a) → (∀ p ∈ K.tb.t, ¬ p.1 = a) → H' a = some o) →
    (∀ a o, H a = some o → NT o → F a = none → (∀ n : Nat, ¬ rho[n]? = some a) → F' a = none) → (∀ (n : Nat) a, rho'[n]? = some a → (∃ m : Nat, rho[m]? = some a) ∨ H a = none) → Rp K F' rho' d v → Q v H'
section
variable {K : Kx} {B : Bs} {F F' : Hp} {rho rho' : List Addr} {om om' : Nat → Option Addr} {z z' : Z} {σ σ' : L2.St} {H H' : Hp} {a p : Addr} {d : D} {v : V} {o : HO}
/-- behind a call -/
theorem Rl.called {h' : List D} (R : Rl K B F rho om z σ H) (e1 : Same F F') (e2 : rho <+: rho') (r : Rh K F' rho' h' H') (fr : ∀ a o, H a = some o → (∀ n : Nat, ¬ rho[n]? = some a) → (∀ p ∈ K.tb.t, ¬ p.1 = a) → H' a = some o)
    (nf : ∀ a o, H a = some o → NT o → F a = none → (∀ n : Nat, ¬ rho[n]? = some a) → F' a = none) (nr : ∀ (n : Nat) a, rho'[n]? = some a → (∃ m : Nat, rho[m]? = some a) ∨ H a = none) : Rl K B F' rho' om ⟨z.s, h'⟩ σ H' := by
  have keep : ∀ (i : Nat) a, om i = some a → H' a = H a := fun i a e => by
    obtain ⟨u, hu, _⟩ := R.oth i a e
    rw [fr a u hu (fun n => R.orr i n a e) (fun p hp c => R.to p hp i (by rw [c]; exact e)), hu]
  have nrho : ∀ a u, B.H0 a = some u → ¬ B.mu a → ∀ n : Nat, ¬ rho[n]? = some a := fun a u e m n q => by
    rcases R.nr n a q with h | h
    · exact m h
    · rw [h] at e
      cases e
  refine ⟨r, R.len, fun i x q => (R.sl i x q).mono e1 e2 (keep i) rfl, R.oj, fun i n a q q2 => ?_, fun i a q => ?_, fun i a q => by rw [keep i a q]; exact R.oth i a q, fun a u q m => fr a u (R.frm a u q m) (nrho a u q m) (fun p hp c => m (by rw [← c]; exact R.mt p hp)), R.exf.trans e1, R.exr.trans e2,
    fun a u q1 nt q2 m => nf a u (R.frm a u q1 m) nt (R.nF a u q1 nt q2 m) (nrho a u q1 m), fun n a q => ?_, R.no, R.ow, R.to, R.mt⟩
  · rcases nr n a q2 with ⟨m, h⟩ | h
    · exact R.orr i m a q h
    · obtain ⟨u, hu, _⟩ := R.oth i a q
      rw [h] at hu
      cases hu
  · obtain ⟨u, hu, nt⟩ := R.oth i a q
    exact nf a u hu nt (R.off i a q) fun n => R.orr i n a q
  · rcases nr n a q with ⟨m, h⟩ | h
    · exact R.nr m a h
    · exact (R.fresh0 h).symm
/-- a frame's start -/
def slots (n : Nat) (ds : List D) : List Sl := ds.map Sl.val ++ List.replicate (n - ds.length) Sl.no
theorem slots_get {n : Nat} {ds : List D} {i : Nat} {x : Sl} (h : (slots n ds)[i]? = some x) : x = .no ∨ ∃ d, ds[i]? = some d ∧ x = .val d := by
  unfold slots at h
  rcases Nat.lt_or_ge i (ds.map Sl.val).length with c | c
  · rw [List.getElem?_append_left c, List.getElem?_map] at h
    cases q : ds[i]? with
    | none =>
      rw [q] at h
      cases h
    | some d =>
      rw [q] at h
      exact .inr ⟨d, rfl, (Option.some.inj h).symm⟩
  · rw [List.getElem?_append_right c, List.getElem?_replicate] at h
    split at h
    · exact .inl (Option.some.inj h).symm
    · cases h
theorem start_get {N : List Str} {vs : List V} {i : Nat} {v : V} (h : vs[i]? = some v) : (L2.start N vs)[i]? = some (some v) := by
  unfold L2.start
  have hl := (List.getElem?_eq_some_iff.mp h).1
  rw [List.getElem?_append_left (by simpa using hl), List.getElem?_map, h]
  rfl
theorem Rl.begin {h : List D} {ds : List D} {vs : List V} {N : List Str} (r : Rh K F rho h H) (q : Rps K F rho ds vs) (hl : vs.length ≤ N.length) :
    Rl K ⟨H, F, rho, fun a => (∃ n : Nat, rho[n]? = some a) ∨ ∃ p ∈ K.tb.t, p.1 = a⟩ F rho (fun _ => none) ⟨slots N.length ds, h⟩ (L2.start N vs) H := by
  refine ⟨r, ?_, fun i x e => ?_, (fun _ _ _ e => nomatch e), (fun _ _ _ e => nomatch e), (fun _ _ e => nomatch e), (fun _ _ e => nomatch e), fun _ _ e _ => e, fun _ _ e => e, List.prefix_refl _, fun _ _ _ _ e _ => e, fun n a e => .inl (.inl ⟨n, e⟩), (fun _ _ e => nomatch e), (fun _ _ e => nomatch e), (fun _ _ _ e => nomatch e), fun p hp => .inr ⟨p, hp, rfl⟩⟩
  · unfold slots L2.start
    rw [List.length_append, List.length_append, List.length_map, List.length_map, List.length_replicate, List.length_replicate, q.length]
  · rcases slots_get e with rfl | ⟨d, h1, rfl⟩
    · trivial
    · obtain ⟨v, h2, r2⟩ := q.get h1
      exact ⟨v, start_get h2, r2⟩
end
end Mi
set_option Elab.async false
set_option linter.all false
set_option maxRecDepth 100000
namespace Mi
open PySem PySem.Spec PyProof.Rows L2
abbrev M (α : Type) := Z → Option (α × Z)
def bnd {α β : Type} (a : M α) (f : α → M β) : M β := fun z => match a z with
  | none => none
  | some (x, z1) => f x z1
def ret {α : Type} (x : α) : M α := fun z => some (x, z)
def isPure : D → Bool
  | .own _ => false
  | _ => true
/-- the items of a list or a tuple (true: a tuple) -/
def cont (d : D) (z : Z) : Option (Bool × List D) := match d with
  | .lst xs => some (false, xs)
  | .tup xs => some (true, xs)
  | .kt xs => some (true, xs)
  | .scr xs => some (false, xs)
  | .ref n => match z.h[n]? with
    | some (.lst xs) => some (false, xs)
    | _ => none
  | .own i => match z.s[i]? with
    | some (.own (.lst xs)) => some (false, xs)
    | _ => none
  | _ => none
/-- lists stay below this length -/
def szl : Nat := 1000000
namespace E
def var (i : Nat) : M D := fun z => match z.s[i]? with
  | some (.val d) => some (d, z)
  | some (.own _) => some (.own i, z)
  | _ => none
def c (d : D) : M D := ret d
/-- a two-place operation that changes nothing -/
def op (f : D → D → Z → Option D) (a b : M D) : M D := bnd a fun x => bnd b fun y => fun z => match f x y z with
  | none => none
  | some d => some (d, z)
def un (f : D → Z → Option D) (a : M D) : M D := bnd a fun x => fun z => match f x z with
  | none => none
  | some d => some (d, z)
def args : List (M D) → M (List D)
  | [] => ret []
  | a :: as => bnd a fun x => bnd (args as) fun xs => if isPure x = true then ret (x :: xs) else fun _ => none
def tup (as : List (M D)) : M D := bnd (args as) fun xs => ret (.tup xs)
/-- a new list that nobody changes -/
def frz (m : M (List D)) : M D := bnd m fun xs => ret (.lst xs)
/-- a new list of the shared heap -/
def shr (m : M (List D)) : M D := bnd m fun xs z => some (.ref z.h.length, ⟨z.s, z.h ++ [.lst xs]⟩)
def call (mf : Fn) (as : List (M D)) : M D := bnd (args as) fun xs z => match mf xs z.h with
  | none => none
  | some (d, h') => some (d, ⟨z.s, h'⟩)
/-- a built-in's call by values -/
def blt (f : List D → Z → Option D) (as : List (M D)) : M D := fun z => match as with
  | [] => none
  | [a] => bnd a (fun x => fun z => match f [x] z with
    | none => none
    | some d => some (d, z)) z
  | _ => bnd (args as) (fun xs z => match f xs z with
    | none => none
    | some d => some (d, z)) z
def ite (t : M Bool) (a b : M D) : M D := bnd t fun k => if k = true then a else b
def and (a b : M D) : M D := bnd a fun x => match x with
  | .bl true => b
  | .bl false => ret (.bl false)
  | _ => fun _ => none
def or (a b : M D) : M D := bnd a fun x => match x with
  | .bl false => b
  | .bl true => ret (.bl true)
  | _ => fun _ => none
def not (a : M D) : M D := bnd a fun x => match x with
  | .bl k => ret (.bl (!k))
  | _ => fun _ => none
/-- a < b < c by two operations -/
def chain (f g : D → D → Z → Option D) (a b c : M D) : M D := bnd a fun x => bnd b fun y => fun z => match f x y z with
  | some (.bl true) => bnd c (fun w z => match g y w z with
    | some (.bl k) => some (.bl k, z)
    | _ => none) z
  | some (.bl false) => some (.bl false, z)
  | _ => none
def isN (a : M D) : M D := bnd a fun x => match x with
  | .non => ret (.bl true)
  | _ => ret (.bl false)
def notN (a : M D) : M D := bnd a fun x => match x with
  | .non => ret (.bl false)
  | _ => ret (.bl true)
/-- xs.m(..) of a list that is changed: f takes the items and the arguments to a value and the items -/
def chgF (f : List D → List D → Option (D × List D)) (x : D) (xs : List D) : M D := fun z => match x with
  | .own i => match z.s[i]? with
    | some (.own (.lst ds)) => match f ds xs with
      | none => none
      | some (d, ds') => some (d, ⟨z.s.set i (.own (.lst ds')), z.h⟩)
    | _ => none
  | .ref n => match z.h[n]? with
    | some (.lst ds) => match f ds xs with
      | none => none
      | some (d, ds') => some (d, ⟨z.s, z.h.set n (.lst ds')⟩)
    | _ => none
  | _ => none
def isLst (x : D) (z : Z) : Bool := match x with
  | .own _ => (cont x z).isSome
  | .ref _ => (cont x z).isSome
  | _ => false
def chg (f : List D → List D → Option (D × List D)) (a : M D) (as : List (M D)) : M D := bnd a fun x => fun z => if isLst x z = true then bnd (args as) (fun xs => chgF f x xs) z else none
end E
def bigN : Nat := 4096
/-- an int of a size that products take -/
def smI (i : Int) : Prop := i.natAbs < 2 ^ bigN
namespace O
def add : D → D → Z → Option D
  | .int i, .int j, _ => some (.int (i + j))
  | _, _, _ => none
def sub : D → D → Z → Option D
  | .int i, .int j, _ => some (.int (i - j))
  | _, _, _ => none
open Classical in
noncomputable def mul : D → D → Z → Option D
  | .int i, .int j, _ => if smI i ∧ smI j then some (.int (i * j)) else none
  | _, _, _ => none
open Classical in
noncomputable def div : D → D → Z → Option D
  | .int i, .int j, _ => if 0 < j ∧ smI j then some (.int (i / j)) else none
  | _, _, _ => none
def mod : D → D → Z → Option D
  | .int i, .int j, _ => if 0 < j then some (.int (i % j)) else none
  | _, _, _ => none
def lt : D → D → Z → Option D
  | .int i, .int j, _ => some (.bl (decide (i < j)))
  | _, _, _ => none
def le : D → D → Z → Option D
  | .int i, .int j, _ => some (.bl (decide (i ≤ j)))
  | _, _, _ => none
def gt : D → D → Z → Option D
  | .int i, .int j, _ => some (.bl (decide (j < i)))
  | _, _, _ => none
def ge : D → D → Z → Option D
  | .int i, .int j, _ => some (.bl (decide (j ≤ i)))
  | _, _, _ => none
def neg : D → Z → Option D
  | .int i, _ => some (.int (-i))
  | _, _ => none
def ix (x y : D) (z : Z) : Option D := match cont x z, y with
  | some (_, ds), .int i => atI ds i
  | _, _ => none
mutual
def toP : D → Option PyData
  | .non => some .none
  | .bl b => some (.bool b)
  | .int i => some (.int i)
  | .str x => some (.str x)
  | .tup xs => (toPs xs).map .tuple
  | .kt xs => (toPs xs).map .tuple
  | .lst xs => (toPs xs).map .list
  | .scr xs => (toPs xs).map .list
  | _ => none
def toPs : List D → Option (List PyData)
  | [] => some []
  | x :: xs => match toP x, toPs xs with
    | some a, some as => some (a :: as)
    | _, _ => none
end
/-- a list that may change, as it stands -/
def snap (x : D) (z : Z) : D := match x with
  | .own _ => match cont x z with
    | some (_, ds) => .lst ds
    | none => .own 0
  | .ref _ => match cont x z with
    | some (_, ds) => .lst ds
    | none => .own 0
  | _ => x
def eqD (x y : D) (z : Z) : Option Bool := match toP (snap x z), toP (snap y z) with
  | some a, some b => if SeqAt.shaped a = true ∧ SeqAt.shaped b = true then some (PyData.eqv a b) else none
  | _, _ => none
def eqP (x y : D) (z : Z) : Option Bool := match x, y with
  | .str a, .str b => some (decide (a = b))
  | x, y => eqD x y z
def eq (x y : D) (z : Z) : Option D := (eqP x y z).map .bl
def ne (x y : D) (z : Z) : Option D := (eqP x y z).map fun k => .bl (!k)
def flat : D → Bool
  | .non => true
  | .bl _ => true
  | .int _ => true
  | .str _ => true
  | _ => false
def eqF : D → D → Bool
  | .non, .non => true
  | .bl a, .bl b => a == b
  | .bl a, .int b => (if a then 1 else 0) == b
  | .int a, .bl b => a == (if b then 1 else 0)
  | .int a, .int b => a == b
  | .str a, .str b => a == b
  | _, _ => false
def isIn (x y : D) (z : Z) : Option D := match cont y z with
  | some (_, ds) => if flat x = true ∧ ds.all flat = true then some (.bl (ds.any fun y => eqF y x)) else none
  | none => none
/-- truth -/
def tru (x : D) (z : Z) : Option Bool := match x with
  | .non => some false
  | .bl b => some b
  | .int i => some (i != 0)
  | _ => match cont x z with
    | some (_, ds) => some (!ds.isEmpty)
    | none => none
end O
namespace F
def len : List D → Z → Option D
  | [x], z => match cont x z with
    | some (_, ds) => some (.int ds.length)
    | none => none
  | _, _ => none
def abs : List D → Z → Option D
  | [.int i], _ => some (.int (if i < 0 then -i else i))
  | _, _ => none
def max2 : List D → Z → Option D
  | [.int i, .int j], _ => some (.int (if j > i then j else i))
  | _, _ => none
def min2 : List D → Z → Option D
  | [.int i, .int j], _ => some (.int (if j < i then j else i))
  | _, _ => none
def int1 : List D → Z → Option D
  | [.int i], _ => some (.int i)
  | [.bl k], _ => some (.int (if k then 1 else 0))
  | _, _ => none
def tuple : List D → Z → Option D
  | [.kt _], _ => none
  | [x], z => match cont x z with
    | some (_, ds) => some (.tup ds)
    | none => none
  | _, _ => none
def ofInts : List D → Option (List Int)
  | [] => some []
  | .int i :: r => (ofInts r).map (i :: ·)
  | _ :: _ => none
/-- of a list (no tuple) -/
def lstI (x : D) (z : Z) : Option (List Int) := match cont x z with
  | some (false, ds) => ofInts ds
  | _ => none
def sum : List D → Z → Option D
  | [x], z => (lstI x z).map fun ns => .int ns.sum
  | _, _ => none
def minL : List Int → Option Int
  | [] => none
  | x :: xs => some (xs.foldl (fun a b => if b < a then b else a) x)
/-- isinstance(x, T) of a built-in class T: the class's name given -/
def tyName : D → Z → Option String
  | .non, _ => some "NoneType"
  | .bl _, _ => some "bool"
  | .int _, _ => some "int"
  | .str _, _ => some "str"
  | .tup _, _ => some "tuple"
  | .kt _, _ => some "tuple"
  | .lst _, _ => some "list"
  | .ref n, z => match z.h[n]? with
    | some (.lst _) => some "list"
    | _ => none
  | .own i, z => match z.s[i]? with
    | some (.own (.lst _)) => some "list"
    | _ => none
  | _, _ => none
end F
namespace U
def append (ds xs : List D) : Option (D × List D) := match xs with
  | [x] => if ds.length < szl then some (.non, ds ++ [x]) else none
  | _ => none
def popAt (ds xs : List D) : Option (D × List D) := match xs with
  | [.int i] => if -(2 ^ 63) ≤ i ∧ i < 2 ^ 63 then match ixN ds.length i with
    | some k => match ds[k]? with
      | some d => some (d, ds.eraseIdx k)
      | none => none
    | none => none else none
  | _ => none
/-- extend by a list that stands still -/
def extend (ds xs : List D) : Option (D × List D) := match xs with
  | [.lst ys] => if ds.length + ys.length < szl then some (.non, ds ++ ys) else none
  | _ => none
def setAt (ds : List D) (i : Int) (x : D) : Option (List D) := (ixN ds.length i).map fun k => ds.set k x
end U
namespace N
def disp (as : List (M D)) : M (List D) := E.args as
def ofSeq (a : M D) : M (List D) := bnd a fun x z => match cont x z with
  | some (_, ds) => some (ds, z)
  | none => none
def cutL {α : Type} (ds : List α) (lo hi : Option Int) : List α := (ds.drop (HT.sIx ds.length 0 lo)).take (HT.sIx ds.length ds.length hi - HT.sIx ds.length 0 lo)
def part (a : Option (M D)) : M (Option Int) := match a with
  | none => ret none
  | some m => bnd m fun x => match x with
    | .int i => ret (some i)
    | _ => fun _ => none
/-- xs[lo:hi] of a list -/
def slice (a : M D) (lo hi : Option (M D)) : M (List D) := bnd a fun x => bnd (part lo) fun l => bnd (part hi) fun u z => match cont x z with
  | some (false, ds) => some (cutL ds l u, z)
  | _ => none
/-- xs + ys of lists -/
def cat (a b : M D) : M (List D) := bnd a fun x => bnd b fun y z => match x, y with
  | .scr _, _ => none
  | _, .scr _ => none
  | _, _ => match cont x z, cont y z with
    | some (false, ds), some (false, es) => if ds.length + es.length < szl then some (ds ++ es, z) else none
    | _, _ => none
end N
namespace T
def val (a : M D) : M Bool := bnd a fun x => match x with
  | .bl k => ret k
  | _ => fun _ => none
def tru (a : M D) : M Bool := bnd a fun x z => match O.tru x z with
  | some k => some (k, z)
  | none => none
def and (a b : M Bool) : M Bool := bnd a fun k => if k = true then b else ret false
def or (a b : M Bool) : M Bool := bnd a fun k => if k = true then ret true else b
def not (a : M Bool) : M Bool := bnd a fun k => ret (!k)
end T
/-- a target: which slots it sets, and how -/
structure G where
  ws : List Nat
  run : D → Z → Option Z
namespace G
def nm (i : Nat) : G := ⟨[i], fun d z => some ⟨z.s.set i (.val d), z.h⟩⟩
def runs : List G → List D → Z → Option Z
  | [], [], z => some z
  | g :: gs, d :: ds, z => match g.run d z with
    | none => none
    | some z1 => runs gs ds z1
  | _, _, _ => none
def tp (gs : List G) : G := ⟨gs.flatMap G.ws, fun d z => match d with
  | .tup ds => runs gs ds z
  | .kt ds => runs gs ds z
  | _ => none⟩
/-- .. of a list -/
def tl (gs : List G) : G := ⟨gs.flatMap G.ws, fun d z => match d with
  | .lst ds => runs gs ds z
  | _ => none⟩
end G
structure It where
  items : List D
  chk : Option D
open Classical in
noncomputable def It.ok (it : It) (z : Z) : Bool := match it.chk with
  | none => true
  | some d => if ∃ b, cont d z = some (b, it.items) then true else false
namespace I
def seq (a : M D) : M It := bnd a fun x z => match x with
  | .lst xs => some (⟨xs, none⟩, z)
  | .tup xs => some (⟨xs, none⟩, z)
  | .kt xs => some (⟨xs, none⟩, z)
  | .scr xs => some (⟨xs, none⟩, z)
  | .ref _ => match cont x z with
    | some (_, xs) => some (⟨xs, some x⟩, z)
    | none => none
  | _ => none
/-- in a comprehension a slot's own list, too -/
def seqF (x : D) (z : Z) : Option (It × Z) := match x with
  | .lst xs => some (⟨xs, none⟩, z)
  | .tup xs => some (⟨xs, none⟩, z)
  | .kt xs => some (⟨xs, none⟩, z)
  | .scr xs => some (⟨xs, none⟩, z)
  | .ref _ => match cont x z with
    | some (_, xs) => some (⟨xs, some x⟩, z)
    | none => none
  | .own _ => match cont x z with
    | some (_, xs) => some (⟨xs, some x⟩, z)
    | none => none
  | _ => none
def seqC (a : M D) : M It := bnd a seqF
def irng (lo : Int) (n : Nat) : List D := (List.range n).map fun i => D.int (lo + (i : Nat))
def rng1 (a : M D) : M It := bnd a fun x => match x with
  | .int n => if -(2 ^ 62) ≤ n ∧ n < 2 ^ 62 then ret ⟨irng 0 n.toNat, none⟩ else fun _ => none
  | _ => fun _ => none
def rng2 (a b : M D) : M It := bnd a fun x => bnd b fun y => match x, y with
  | .int i, .int j => if (-(2 ^ 62) ≤ i ∧ i < 2 ^ 62) ∧ -(2 ^ 62) ≤ j ∧ j < 2 ^ 62 then ret ⟨irng i (j - i).toNat, none⟩ else fun _ => none
  | _, _ => fun _ => none
end I
namespace N
def wipe (s : List Sl) : List Nat → List Sl
  | [] => s
  | v :: vs => (wipe s vs).set v .no
def rest (s0 s : List Sl) : List Nat → List Sl
  | [] => s
  | v :: vs => match s0[v]? with
    | some x => (rest s0 s vs).set v x
    | none => rest s0 s vs
def isOwn : Option Sl → Bool
  | some (.own _) => true
  | _ => false
noncomputable def loop (it : It) (g : G) (vs : List Nat) (tt : M Bool) (te : M D) : List D → List D → Z → Option (List D × Z)
  | [], acc, z => if it.ok z = true then some (acc, z) else none
  | d :: ds, acc, z => if it.ok z = true then match g.run d z with
    | none => none
    | some z1 => match tt z1 with
      | none => none
      | some (false, z2) => loop it g vs tt te ds acc ⟨wipe z2.s vs, z2.h⟩
      | some (true, z2) => match te z2 with
        | none => none
        | some (x, z3) => if isPure x = true then loop it g vs tt te ds (acc ++ [x]) ⟨wipe z3.s vs, z3.h⟩ else none
    else none
noncomputable def comp (mi : M It) (g : G) (vs : List Nat) (tt : M Bool) (te : M D) : M (List D) := bnd mi fun it z =>
  if it.items.length ≤ szl ∧ (vs.all fun v => !isOwn z.s[v]?) = true then match loop it g vs tt te it.items [] ⟨wipe z.s vs, z.h⟩ with
    | none => none
    | some (acc, z1) => some (acc, ⟨rest z.s z1.s vs, z1.h⟩)
  else none
end N
inductive Fl where
  | nx | bk | ct | rt (d : D)
abbrev C := Z → Option (Fl × Z)
namespace C
def skip : C := fun z => some (.nx, z)
def seq (a b : C) : C := fun z => match a z with
  | some (.nx, z1) => b z1
  | r => r
def set (i : Nat) (e : M D) : C := bnd e fun d z => if isPure d = true then some (.nx, ⟨z.s.set i (.val d), z.h⟩) else none
/-- target = e -/
def asg (g : G) (e : M D) : C := bnd e fun d z => if isPure d = true then match g.run d z with
    | some z1 => some (.nx, z1)
    | none => none
  else none
/-- the slot owns the new list -/
def own (i : Nat) (e : M (List D)) : C := bnd e fun ds z => if i < z.s.length then some (.nx, ⟨z.s.set i (.own (.lst ds)), z.h⟩) else none
/-- the slot's list is not changed any more -/
def frz (i : Nat) : C := fun z => match z.s[i]? with
  | some (.own (.lst ds)) => some (.nx, ⟨z.s.set i (.val (.lst ds)), z.h⟩)
  | _ => none
def drop (e : M D) : C := bnd e fun _ z => some (.nx, z)
def ret (e : M D) : C := bnd e fun d z => match d with
  | .own i => match z.s[i]? with
    | some (.own (.lst ds)) => some (.rt (.lst ds), ⟨z.s.set i .no, z.h⟩)
    | _ => none
  | _ => some (.rt d, z)
def ite (t : M Bool) (a b : C) : C := bnd t fun k => if k = true then a else b
def brk : C := fun z => some (.bk, z)
def cnt : C := fun z => some (.ct, z)
/-- a[i] = e, a list that may change -/
def setIx (a i e : M D) : C := bnd e fun d => bnd a fun x => bnd i fun y z => if isPure d = true then match x, y with
    | .own k, .int j => match z.s[k]? with
      | some (.own (.lst ds)) => match U.setAt ds j d with
        | some ds' => some (.nx, ⟨z.s.set k (.own (.lst ds')), z.h⟩)
        | none => none
      | _ => none
    | .ref n, .int j => match z.h[n]? with
      | some (.lst ds) => match U.setAt ds j d with
        | some ds' => some (.nx, ⟨z.s, z.h.set n (.lst ds')⟩)
        | none => none
      | _ => none
    | _, _ => none
  else none
/-- x op= e -/
def aug (i : Nat) (f : D → D → Z → Option D) (e : M D) : C := fun z => match z.s[i]? with
  | some (.val x) => bnd e (fun y z => match f x y z with
    | some d => if isPure d = true then some (.nx, ⟨z.s.set i (.val d), z.h⟩) else none
    | none => none) z
  | _ => none
noncomputable def loop (it : It) (g : G) (b : C) : List D → C
  | [] => fun z => if it.ok z = true then some (.nx, z) else none
  | d :: ds => fun z => if it.ok z = true then match g.run d z with
    | none => none
    | some z1 => match b z1 with
      | none => none
      | some (.nx, z2) => loop it g b ds z2
      | some (.ct, z2) => loop it g b ds z2
      | some (.bk, z2) => some (.nx, z2)
      | some (.rt d, z2) => some (.rt d, z2)
    else none
noncomputable def for_ (mi : M It) (g : G) (b : C) : C := bnd mi fun it => loop it g b it.items
def whl (t : M Bool) (b : C) : C := fun z => match t z with
  | none => none
  | some (false, z1) => some (.nx, z1)
  | some (true, z1) => match b z1 with
    | none => none
    | some (.nx, z2) => whl t b z2
    | some (.ct, z2) => whl t b z2
    | some (.bk, z2) => some (.nx, z2)
    | some (.rt d, z2) => some (.rt d, z2)
partial_fixpoint
end C
/-- a def by its body: n slots, k parameters -/
def fn (n k : Nat) (b : C) : Fn := fun ds h => if ds.length = k then match b ⟨slots n ds, h⟩ with
    | some (.rt d, z) => some (d, z.h)
    | some (.nx, z) => some (.non, z.h)
    | _ => none
  else none
end Mi
set_option Elab.async false
set_option linter.all false
set_option maxRecDepth 100000
namespace Mi
open PySem PySem.Spec PyProof.Rows L2
abbrev RelT (α β : Type) := Bs → Hp → List Addr → (Nat → Option Addr) → Hp → α → β → Prop
/-- from the state z the meaning m goes on as Q wants -/
def Go (K : Kx) {α β : Type} (R : RelT α β) (B : Bs) (F : Hp) (rho : List Addr) (om : Nat → Option Addr) (m : M α) (z : Z) (σ : L2.St) (H : Hp) (Q : β → Hp → Prop) : Prop :=
  Rl K B F rho om z σ H ∧ ∃ x z', m z = some (x, z') ∧ ∀ F' rho' H' y, Same F F' → rho <+: rho' → Rl K B F' rho' om z' σ H' → R B F' rho' om H' x y → Q y H'
def Tx (K : Kx) {α β : Type} (R : RelT α β) (m : M α) : L2.St → Hp → (β → Hp → Prop) → Prop := fun σ H Q => ∃ B F rho om z, Go K R B F rho om m z σ H Q
abbrev rV (K : Kx) : RelT D V := fun _ F rho om _ d v => Rv K F rho om d v
abbrev rB : RelT Bool Bool := fun _ _ _ _ _ a b => b = a
abbrev rA (K : Kx) : RelT (List D) (List V) := fun _ F rho _ _ ds vs => Rps K F rho ds vs
abbrev rF (K : Kx) : RelT (List D) V := fun B F rho om H ds v => ∃ p xs, v = .ref p ∧ H p = some (.lst xs) ∧ Fresh K B F rho om H p ∧ Rps K F rho ds xs
abbrev rO : RelT (Option Int) (Option Int) := fun _ _ _ _ _ a b => b = a
abbrev Te (K : Kx) (m : M D) : TE := Tx K (rV K) m
abbrev Tt (K : Kx) (m : M Bool) : TT := Tx K rB m
abbrev Ta (K : Kx) (m : M (List D)) : TA := Tx K (rA K) m
abbrev Tf (K : Kx) (m : M (List D)) : TE := Tx K (rF K) m
abbrev To (K : Kx) (m : M (Option Int)) : TO := Tx K rO m
theorem bnd_some {α β : Type} {a : M α} {f : α → M β} {z z' : Z} {y : β} (h : bnd a f z = some (y, z')) : ∃ x z1, a z = some (x, z1) ∧ f x z1 = some (y, z') := by
  unfold bnd at h
  split at h
  · cases h
  · exact ⟨_, _, by assumption, h⟩
section
variable {K : Kx} {α β γ δ : Type} {R : RelT α β} {R' : RelT γ δ} {B : Bs} {F : Hp} {rho : List Addr} {om : Nat → Option Addr} {z : Z} {σ : L2.St} {H : Hp}
theorem Go.imp {m : M α} {Q Q' : β → Hp → Prop} (h : Go K R B F rho om m z σ H Q) (i : ∀ F' rho' H' x z' y, m z = some (x, z') → Same F F' → rho <+: rho' → Rl K B F' rho' om z' σ H' → R B F' rho' om H' x y → Q y H' → Q' y H') : Go K R B F rho om m z σ H Q' := by
  obtain ⟨r, x, z', e, k⟩ := h
  exact ⟨r, x, z', e, fun F' rho' H' y s p r' q => i F' rho' H' x z' y e s p r' q (k F' rho' H' y s p r' q)⟩
/-- one after another -/
theorem Go.bnd {a : M α} {f : α → M γ} {Q : δ → Hp → Prop} (h : Go K R' B F rho om (bnd a f) z σ H Q) :
    Go K R B F rho om a z σ H fun y H1 => ∃ F1 rho1 z1 x, a z = some (x, z1) ∧ Same F F1 ∧ rho <+: rho1 ∧ R B F1 rho1 om H1 x y ∧ Go K R' B F1 rho1 om (f x) z1 σ H1 Q := by
  obtain ⟨r, x, z', e, k⟩ := h
  obtain ⟨y, z1, e1, e2⟩ := bnd_some e
  exact ⟨r, y, z1, e1, fun F1 rho1 H1 v s1 p1 r1 q1 => ⟨F1, rho1, z1, y, e1, s1, p1, q1, r1, x, z', e2, fun F2 rho2 H2 w s2 p2 r2 q2 => k F2 rho2 H2 w (s1.trans s2) (p1.trans p2) r2 q2⟩⟩
theorem Go.ret {x : α} {Q : β → Hp → Prop} (h : Go K R B F rho om (ret x) z σ H Q) : ∀ y, R B F rho om H x y → Q y H := by
  obtain ⟨r, x', z', e, k⟩ := h
  unfold Mi.ret at e
  cases e
  exact fun y q => k F rho H y (Same.refl F) (List.prefix_refl _) r q
theorem Go.tx {m : M α} {Q : β → Hp → Prop} (h : Go K R B F rho om m z σ H Q) : Tx K R m σ H Q := ⟨B, F, rho, om, z, h⟩
end
section
variable {K : Kx} {B : Bs} {F : Hp} {rho : List Addr} {om : Nat → Option Addr} {z : Z} {σ : L2.St} {H : Hp}
/-- a list or tuple, read -/
theorem cont_ok (R : Rl K B F rho om z σ H) {d : D} {v : V} {t : Bool} {ds : List D} (r : Rv K F rho om d v) (e : cont d z = some (t, ds)) :
    ∃ a xs, v = .ref a ∧ Rps K F rho ds xs ∧ ((t = false ∧ SqL K H a xs) ∨ (t = true ∧ SqT K H a xs)) := by
  cases r with
  | pure r =>
    cases r with
    | non => cases e
    | bl b => cases e
    | int i => cases e
    | str x => cases e
    | tup h q =>
      cases e
      exact ⟨_, _, rfl, q, .inr ⟨rfl, SqT.of (R.rh.fro _ _ h)⟩⟩
    | kt h q =>
      cases e
      exact ⟨_, _, rfl, q, .inr ⟨rfl, Same.sqt R.rh.fro h⟩⟩
    | lst h q =>
      cases e
      exact ⟨_, _, rfl, q, .inl ⟨rfl, SqL.of (R.rh.fro _ _ h)⟩⟩
    | scr h q =>
      cases e
      exact ⟨_, _, rfl, q, .inl ⟨rfl, R.rh.fro.seq h⟩⟩
    | @ref n a h =>
      have e : (match z.h[n]? with | some (.lst xs) => some (false, xs) | _ => none) = some (t, ds) := e
      split at e
      · rename_i xs hx
        cases e
        obtain ⟨ys, h1, h2⟩ := R.rh.obs n _ a hx h
        exact ⟨a, ys, rfl, h2, .inl ⟨rfl, SqL.of h1⟩⟩
      · cases e
    | dk => cases e
    | dt => cases e
    | ins => cases e
  | @own i a h =>
    have e : (match z.s[i]? with | some (.own (.lst xs)) => some (false, xs) | _ => none) = some (t, ds) := e
    split at e
    · rename_i xs hx
      cases e
      obtain ⟨a', h1, _, h2⟩ := R.sl i _ hx
      rw [h] at h1
      cases h1
      obtain ⟨ys, h3, h4⟩ := h2
      exact ⟨a, ys, rfl, h4, .inl ⟨rfl, SqL.of h3⟩⟩
    · cases e
theorem Rv.of_pure {d : D} {v : V} (r : Rv K F rho om d v) (h : isPure d = true) : Rp K F rho d v := by
  cases r with
  | pure r => exact r
  | own _ => cases h
end
section
variable {X : Cx} {Tb : Tbs}
theorem pe_imp {e : Expr} {t t' : TE} (h : PE X e t) (i : ∀ σ H Q, t' σ H Q → t σ H Q) : PE X e t' := ⟨fun pins s σ H Q I hw => h.run pins s σ H Q I (i σ H Q hw)⟩
theorem pt_imp {e : Expr} {t t' : TT} (h : PT X e t) (i : ∀ σ H Q, t' σ H Q → t σ H Q) : PT X e t' := ⟨fun pins s σ H Q I hw => h.run pins s σ H Q I (i σ H Q hw)⟩
theorem pw_imp {e : Expr} {t t' : TT} (h : PW X e t) (i : ∀ σ H Q, t' σ H Q → t σ H Q) : PW X e t' := ⟨fun wh pins s σ H Q I hw => h.run wh pins s σ H Q I (i σ H Q hw)⟩
theorem pa_imp {es : List Expr} {t t' : TA} (h : PA X es t) (i : ∀ σ H Q, t' σ H Q → t σ H Q) : PA X es t' := ⟨fun pos pins s σ H Q I hw => h.run pos pins s σ H Q I (i σ H Q hw)⟩
theorem ps_imp {st : Stmt} {t t' : TS} (h : PS X st t) (i : ∀ D σ H, t' D σ H → t D σ H) : PS X st t' := ⟨fun pins s σ H D I hw => h.run pins s σ H D I (i D σ H hw)⟩
theorem pss_imp {st : List Stmt} {t t' : TS} (h : PSs X st t) (i : ∀ D σ H, t' D σ H → t D σ H) : PSs X st t' := ⟨fun pins s σ H D I hw => h.run pins s σ H D I (i D σ H hw)⟩
theorem pg_imp {e : Expr} {t t' : TG} (h : PG X e t) (i : ∀ v σ H Q, t' v σ H Q → t v σ H Q) : PG X e t' := ⟨fun pins s σ H v u Q I r hw => h.run pins s σ H v u Q I r (i v σ H Q hw)⟩
theorem pgs_imp {es : List Expr} {t t' : TGs} (h : PGs X es t) (i : ∀ vs σ H Q, t' vs σ H Q → t vs σ H Q) : PGs X es t' := ⟨fun pins s σ H vs us Q I r hw => h.run pins s σ H vs us Q I r (i vs σ H Q hw)⟩
theorem pi_imp {tg e : Expr} {t t' : TI} (h : PI X tg e t) (i : ∀ σ H R, t' σ H R → t σ H R) : PI X tg e t' := ⟨fun pins s σ H R I hw => h.run pins s σ H R I (i σ H R hw)⟩
theorem pts_imp {es : List Expr} {t t' : TT} (h : PTs X es t) (i : ∀ σ H Q, t' σ H Q → t σ H Q) : PTs X es t' := ⟨fun pins s σ H Q I hw => h.run pins s σ H Q I (i σ H Q hw)⟩
theorem po_imp {e : Option Expr} {t t' : TO} (h : PO X e t) (i : ∀ σ H Q, t' σ H Q → t σ H Q) : PO X e t' := ⟨fun pins s σ H Q I hw => h.run pins s σ H Q I (i σ H Q hw)⟩
theorem me_var (i : Nat) {x : Str} {pos : Pos} (hN : X.N[i]? = some x := by rfl) (hv : Vis X.env.scope x := by first | exact Or.inl rfl | exact Or.inr (Or.inl rfl) | exact Or.inr (Or.inr rfl)) (hd : (x == ("__debug__" : Str)) = false := by decide)
    (hcd : (x == ("__classdict__" : Str)) = false := by decide) : PE X (.Name x pos) (Te (kx X Tb) (E.var i)) := by
  refine pe_imp (pe_var hN hv hd hcd) fun σ H Q ⟨B, F, rho, om, z, R, d, z', e, k⟩ => ?_
  unfold E.var at e
  split at e
  · rename_i d' hd'
    cases e
    obtain ⟨v, h1, h2⟩ := R.sl i _ hd'
    exact ⟨v, h1, k F rho H v (Same.refl F) (List.prefix_refl _) R (.pure h2)⟩
  · rename_i d' hd'
    cases e
    obtain ⟨a, h1, h2, h3⟩ := R.sl i _ hd'
    exact ⟨_, h2, k F rho H _ (Same.refl F) (List.prefix_refl _) R (.own h1)⟩
  · cases e
/-- a constant's reading -/
theorem tc_ok {K : Kx} {d : D} {v : V} (h : ∀ F rho, Rp K F rho d v) : ∀ σ H Q, Te K (E.c d) σ H Q → tC v σ H Q := fun σ H Q ⟨B, F, rho, om, z, g⟩ => g.ret v (.pure (h F rho))
theorem me_int {i j pos} : PE X (.Constant (.int i) j pos) (Te (kx X Tb) (E.c (.int i))) := pe_imp pe_int (tc_ok fun _ _ => .int i)
theorem me_bl {b j pos} : PE X (.Constant (.bool b) j pos) (Te (kx X Tb) (E.c (.bl b))) := pe_imp pe_bl (tc_ok fun _ _ => .bl b)
theorem me_non {j pos} : PE X (.Constant .none j pos) (Te (kx X Tb) (E.c .non)) := pe_imp pe_non (tc_ok fun _ _ => .non)
theorem me_str {x j pos} : PE X (.Constant (.str x) j pos) (Te (kx X Tb) (E.c (.str x))) := pe_imp pe_str (tc_ok fun _ _ => .str x)
theorem ma_nil : PA X [] (Ta (kx X Tb) (E.args [])) := pa_imp pa_nil fun σ H Q ⟨B, F, rho, om, z, g⟩ => g.ret [] .nil
theorem ma_cons {e : Expr} {es : List Expr} {m : M D} {ms : List (M D)} (ha : PE X e (Te (kx X Tb) m)) (hr : PA X es (Ta (kx X Tb) (E.args ms))) (hs : starEach (e :: es) X.env = (false, eval e X.env) :: starEach es X.env := by rfl) :
    PA X (e :: es) (Ta (kx X Tb) (E.args (m :: ms))) := by
  refine pa_imp (pa_cons ha hr hs) fun σ H Q ⟨B, F, rho, om, z, g⟩ => ?_
  refine (g.bnd.imp fun F1 rho1 H1 x z1 y _ _ _ _ _ ⟨F2, rho2, z2, x2, eg1, s1, p1, r1, g1⟩ => ?_).tx (R := rV (kx X Tb))
  refine (g1.bnd.imp fun F3 rho3 H3 xs z3 ys _ _ _ _ _ ⟨F4, rho4, z4, xs4, eg2, s2, p2, r2, g2⟩ => ?_).tx (R := rA (kx X Tb))
  by_cases hp : isPure x2 = true
  · rw [if_pos hp] at g2
    exact g2.ret _ (.cons ((r1.mono s2 p2).of_pure hp) r2)
  · rw [if_neg hp] at g2
    obtain ⟨_, _, _, e, _⟩ := g2
    cases e
end
end Mi
set_option Elab.async false
set_option linter.all false
set_option maxRecDepth 100000
namespace Mi
open PySem PySem.Spec PyProof.Rows L2
section
variable {X : Cx} {Tb : Tbs}
/-- a two-place operation of values and its rule -/
def OpV (K : Kx) (r : R2) (f : D → D → Z → Option D) : Prop :=
  ∀ {B : Bs} {F : Hp} {rho : List Addr} {om : Nat → Option Addr} {z : Z} {σ : L2.St} {H : Hp} {x y : D} {xv yv : V} {d : D}, Rl K B F rho om z σ H → Rv K F rho om x xv → Rv K F rho om y yv → f x y z = some d →
    ∀ Q : VK, (∀ F' H' v, Same F F' → Rl K B F' rho om z σ H' → Rv K F' rho om d v → Q v H') → r xv yv H Q
theorem op_go {K : Kx} {r : R2} {f : D → D → Z → Option D} (hv : OpV K r f) {ma mb : M D} : ∀ σ H Q, Te K (E.op f ma mb) σ H Q → tOp r (Te K ma) (Te K mb) σ H Q := by
  rintro σ H Q ⟨B, F, rho, om, z, g⟩
  refine (g.bnd.imp fun _ _ H1 _ _ xv _ _ _ _ _ ⟨F2, rho2, z2, x2, eg1, s1, p1, r1, g1⟩ => ?_).tx (R := rV K)
  refine (g1.bnd.imp fun _ _ H2 _ _ yv _ _ _ _ _ ⟨F3, rho3, z3, y3, eg2, s2, p2, r2, g2⟩ => ?_).tx (R := rV K)
  obtain ⟨R, d, z4, e, k⟩ := g2
  dsimp only at e
  split at e
  · cases e
  · rename_i d' hd
    cases e
    exact hv R (r1.mono s2 p2) r2 hd Q fun F' H' v s R' q => k F' rho3 H' v s (List.prefix_refl _) R' q
def UnV (K : Kx) (r : V → Hp → VK → Prop) (f : D → Z → Option D) : Prop :=
  ∀ {B : Bs} {F : Hp} {rho : List Addr} {om : Nat → Option Addr} {z : Z} {σ : L2.St} {H : Hp} {x : D} {xv : V} {d : D}, Rl K B F rho om z σ H → Rv K F rho om x xv → f x z = some d →
    ∀ Q : VK, (∀ F' H' v, Same F F' → Rl K B F' rho om z σ H' → Rv K F' rho om d v → Q v H') → r xv H Q
theorem un_go {K : Kx} {r : V → Hp → VK → Prop} {f : D → Z → Option D} (hv : UnV K r f) {ma : M D} : ∀ σ H Q, Te K (E.un f ma) σ H Q → tUn r (Te K ma) σ H Q := by
  rintro σ H Q ⟨B, F, rho, om, z, g⟩
  refine (g.bnd.imp fun _ _ H1 _ _ xv _ _ _ _ _ ⟨F2, rho2, z2, x2, eg1, s1, p1, r1, g1⟩ => ?_).tx (R := rV K)
  obtain ⟨R, d, z4, e, k⟩ := g1
  dsimp only at e
  split at e
  · cases e
  · rename_i d' hd
    cases e
    exact hv R r1 hd Q fun F' H' v s R' q => k F' rho2 H' v s (List.prefix_refl _) R' q
/-- a rule of the model and its meaning, together -/
structure OpM (X : Cx) (g : Value → Value → Sem Value) (f : D → D → Z → Option D) : Prop where
  rl : ∃ r, OpR X g r ∧ ∀ Tb, OpV (kx X Tb) r f
theorem me_op {op : Operator} {f : D → D → Z → Option D} {a b : Expr} {pos : Pos} {ma mb : M D} (ho : OpM X (binaryOp op) f) (ha : PE X a (Te (kx X Tb) ma)) (hb : PE X b (Te (kx X Tb) mb)) : PE X (.BinOp a op b pos) (Te (kx X Tb) (E.op f ma mb)) := by
  obtain ⟨r, h1, h2⟩ := ho.rl
  exact pe_imp (pe_op h1 ha hb) (op_go (h2 _))
theorem me_cmp {op : CmpOp} {f : D → D → Z → Option D} {a b : Expr} {pos : Pos} {ma mb : M D} (ho : OpM X (compareOp op) f) (ha : PE X a (Te (kx X Tb) ma)) (hb : PE X b (Te (kx X Tb) mb)) (hm : behindInMarks op b = false) : PE X (.Compare a [op] [b] pos) (Te (kx X Tb) (E.op f ma mb)) := by
  obtain ⟨r, h1, h2⟩ := ho.rl
  exact pe_imp (pe_cmpR h1 ha hb hm) (op_go (h2 _))
/-- the reading of a test by an expression that gives True or False -/
theorem tv_go {K : Kx} {t : TE} {m : M D} (h : ∀ σ H Q, Te K m σ H Q → t σ H Q) : ∀ σ H Q, Tt K (T.val m) σ H Q → tTest t σ H Q := by
  rintro σ H Q ⟨B, F, rho, om, z, g⟩
  refine h σ H _ ((g.bnd.imp fun _ _ H1 _ _ xv _ _ _ _ _ ⟨F2, rho2, z2, x2, eg1, s1, p1, r1, g1⟩ => ?_).tx (R := rV K))
  cases r1 with
  | own _ => obtain ⟨_, _, _, e, _⟩ := g1; cases e
  | pure r1 =>
    cases r1 with
    | bl b => exact ⟨b, rfl, g1.ret b rfl⟩
    | _ => obtain ⟨_, _, _, e, _⟩ := g1; cases e
theorem mt_cmp {op : CmpOp} {f : D → D → Z → Option D} {a b : Expr} {pos : Pos} {ma mb : M D} (ho : OpM X (compareOp op) f) (ha : PE X a (Te (kx X Tb) ma)) (hb : PE X b (Te (kx X Tb) mb)) (hm : behindInMarks op b = false) : PT X (.Compare a [op] [b] pos) (Tt (kx X Tb) (T.val (E.op f ma mb))) := by
  obtain ⟨r, h1, h2⟩ := ho.rl
  exact pt_imp (pt_cmpR h1 ha hb hm) (tv_go (op_go (h2 _)))
/-- is None, is not None -/
theorem isN_go {K : Kx} {ma : M D} : ∀ σ H Q, Te K (E.isN ma) σ H Q → tIsN (Te K ma) σ H Q := by
  rintro σ H Q ⟨B, F, rho, om, z, g⟩
  refine (g.bnd.imp fun _ _ H1 _ _ xv _ _ _ _ _ ⟨F2, rho2, z2, x2, eg1, s1, p1, r1, g1⟩ => ?_).tx (R := rV K)
  cases r1 with
  | own _ => exact g1.ret _ (.pure (.bl false))
  | pure r1 =>
    cases r1 with
    | non => exact g1.ret _ (.pure (.bl true))
    | _ => exact g1.ret _ (.pure (.bl false))
theorem notN_go {K : Kx} {ma : M D} : ∀ σ H Q, Te K (E.notN ma) σ H Q → tNotN (Te K ma) σ H Q := by
  rintro σ H Q ⟨B, F, rho, om, z, g⟩
  refine (g.bnd.imp fun _ _ H1 _ _ xv _ _ _ _ _ ⟨F2, rho2, z2, x2, eg1, s1, p1, r1, g1⟩ => ?_).tx (R := rV K)
  cases r1 with
  | own _ => exact g1.ret _ (.pure (.bl true))
  | pure r1 =>
    cases r1 with
    | non => exact g1.ret _ (.pure (.bl false))
    | _ => exact g1.ret _ (.pure (.bl true))
theorem mt_isN {a : Expr} {ma : M D} {pos pos' : Pos} {j} (ha : PE X a (Te (kx X Tb) ma)) : PT X (.Compare a [.Is] [.Constant .none j pos'] pos) (Tt (kx X Tb) (T.val (E.isN ma))) := pt_imp (pt_cmp (pc_isN ha) (by rfl)) (tv_go isN_go)
theorem mt_notN {a : Expr} {ma : M D} {pos pos' : Pos} {j} (ha : PE X a (Te (kx X Tb) ma)) : PT X (.Compare a [.IsNot] [.Constant .none j pos'] pos) (Tt (kx X Tb) (T.val (E.notN ma))) := pt_imp (pt_cmp (pc_notN ha) (by rfl)) (tv_go notN_go)
theorem two_ints {K : Kx} {F : Hp} {rho : List Addr} {om : Nat → Option Addr} {z : Z} {x y : D} {xv yv : V} {d : D} {g : Int → Int → Option D} {f : D → D → Z → Option D}
    (hf : ∀ x y z, f x y z = match x, y with | .int i, .int j => g i j | _, _ => none) (rx : Rv K F rho om x xv) (ry : Rv K F rho om y yv) (e : f x y z = some d) : ∃ i j, x = .int i ∧ y = .int j ∧ xv = .int i ∧ yv = .int j ∧ g i j = some d := by
  rw [hf] at e
  cases x <;> try (cases e; done)
  cases y <;> try (cases e; done)
  cases rx with
  | pure rx =>
    cases rx
    cases ry with
    | pure ry =>
      cases ry
      exact ⟨_, _, rfl, rfl, rfl, rfl, e⟩
theorem opI0_ok {f : D → D → Z → Option D} {g : Int → Int → V} {g' : Int → Int → D} (hg : ∀ K F rho i j, Rp K F rho (g' i j) (g i j)) (hf : ∀ x y z, f x y z = match x, y with | .int i, .int j => some (g' i j) | _, _ => none) {K : Kx} : OpV K (rI0 g) f := by
  intro B F rho om z σ H x y xv yv d R rx ry e Q k
  obtain ⟨i, j, rfl, rfl, rfl, rfl, e⟩ := two_ints (g := fun i j => some (g' i j)) hf rx ry e
  cases e
  exact ⟨i, j, rfl, rfl, k F H _ (Same.refl F) R (.pure (hg _ _ _ _ _))⟩
theorem opI_ok {f : D → D → Z → Option D} {C : Int → Int → Prop} {g : Int → Int → Int} {h : Int → Int → Option D} (hh : ∀ i j d, h i j = some d → C i j ∧ d = .int (g i j)) (hf : ∀ x y z, f x y z = match x, y with | .int i, .int j => h i j | _, _ => none) {K : Kx} : OpV K (rI C fun i j => .int (g i j)) f := by
  intro B F rho om z σ H x y xv yv d R rx ry e Q k
  obtain ⟨i, j, rfl, rfl, rfl, rfl, e⟩ := two_ints (g := h) hf rx ry e
  obtain ⟨c, rfl⟩ := hh i j d e
  exact ⟨i, j, rfl, rfl, c, k F H _ (Same.refl F) R (.pure (.int _))⟩
theorem o_add : OpM X (binaryOp .Add) O.add := ⟨_, op_add, fun _ => opI0_ok (g' := fun i j => .int (i + j)) (fun _ _ _ _ _ => .int _) fun x y z => by cases x <;> cases y <;> rfl⟩
theorem o_sub : OpM X (binaryOp .Sub) O.sub := ⟨_, op_sub, fun _ => opI0_ok (g' := fun i j => .int (i - j)) (fun _ _ _ _ _ => .int _) fun x y z => by cases x <;> cases y <;> rfl⟩
theorem o_lt : OpM X (compareOp .Lt) O.lt := ⟨_, op_lt, fun _ => opI0_ok (g' := fun i j => .bl (decide (i < j))) (fun _ _ _ _ _ => .bl _) fun x y z => by cases x <;> cases y <;> rfl⟩
theorem o_gt : OpM X (compareOp .Gt) O.gt := ⟨_, op_gt, fun _ => opI0_ok (g' := fun i j => .bl (decide (j < i))) (fun _ _ _ _ _ => .bl _) fun x y z => by cases x <;> cases y <;> rfl⟩
theorem o_ge : OpM X (compareOp .GtE) O.ge := ⟨_, op_ge, fun _ => opI0_ok (g' := fun i j => .bl (decide (j ≤ i))) (fun _ _ _ _ _ => .bl _) fun x y z => by cases x <;> cases y <;> rfl⟩
theorem bigN_pos : 0 < bigN := by decide
open Classical in
theorem o_mul : OpM X (binaryOp .Mult) O.mul := by
  refine ⟨_, op_mulW, fun _ => opI_ok (h := fun i j => if smI i ∧ smI j then some (.int (i * j)) else none) (fun i j d e => ?_) fun x y z => by cases x <;> cases y <;> rfl⟩
  split at e
  · rename_i c
    cases e
    exact ⟨wide_mul c.1 c.2 bigN_pos bigN_pos (by decide), rfl⟩
  · cases e
open Classical in
theorem o_div : OpM X (binaryOp .FloorDiv) O.div := by
  refine ⟨_, op_fdivW, fun _ => opI_ok (h := fun i j => if 0 < j ∧ smI j then some (.int (i / j)) else none) (fun i j d e => ?_) fun x y z => by cases x <;> cases y <;> rfl⟩
  split at e
  · rename_i c
    cases e
    exact ⟨wide_div c.1 c.2 bigN_pos (by decide), rfl⟩
  · cases e
theorem o_mod : OpM X (binaryOp .Mod) O.mod := by
  refine ⟨_, op_mod, fun _ => opI_ok (h := fun i j => if 0 < j then some (.int (i % j)) else none) (fun i j d e => ?_) fun x y z => by cases x <;> cases y <;> rfl⟩
  split at e
  · rename_i c
    cases e
    exact ⟨c, rfl⟩
  · cases e
theorem me_neg {a : Expr} {pos : Pos} {ma : M D} (ha : PE X a (Te (kx X Tb) ma)) : PE X (.UnaryOp .USub a pos) (Te (kx X Tb) (E.un O.neg ma)) := by
  refine pe_imp (pe_un un_neg ha) (un_go ?_)
  intro B F rho om z σ H x xv d R rx e Q k
  unfold O.neg at e
  split at e
  · cases e
    cases rx with
    | pure rx =>
      cases rx
      exact ⟨_, rfl, k F H _ (Same.refl F) R (.pure (.int _))⟩
  · cases e
theorem args_len : ∀ {as : List (M D)} {z z' : Z} {xs : List D}, E.args as z = some (xs, z') → xs.length = as.length
  | [], z, z', xs, h => by
    cases h
    rfl
  | a :: as, z, z', xs, h => by
    obtain ⟨x, z1, _, h2⟩ := bnd_some h
    obtain ⟨ys, z2, h3, h4⟩ := bnd_some h2
    split at h4
    · cases h4
      rw [List.length_cons, List.length_cons, args_len h3]
    · cases h4
theorem me_tup {es : List Expr} {k : Nat} {pos : Pos} {ms : List (M D)} (h : PA X es (Ta (kx X Tb) (E.args ms))) (hl : ms.length ≤ 1000 := by decide) : PE X (.Tuple es k pos) (Te (kx X Tb) (E.tup ms)) := by
  refine pe_imp (pe_tup h) fun σ H Q ⟨B, F, rho, om, z, g⟩ => ?_
  refine (g.bnd.imp fun _ _ H1 _ _ vs em _ _ _ _ ⟨F2, rho2, z2, xs, eg1, s1, p1, r1, g1⟩ => ?_).tx (R := rA (kx X Tb))
  obtain ⟨R, d, z4, e, k⟩ := g1
  cases e
  refine ⟨?_, fun p hp => ?_⟩
  · have hv := r1.length
    have hx := args_len eg1
    exact Nat.le_trans (by omega) (show 1000 ≤ sizeLine by decide)
  · obtain ⟨F3, R3, s3, q3⟩ := R.alloc (o := .tup vs) hp
    exact k F3 rho2 _ _ s3 (List.prefix_refl _) R3 (.pure (.tup q3 (r1.mono s3 (List.prefix_refl _))))
end
end Mi
set_option Elab.async false
set_option linter.all false
set_option maxRecDepth 100000
namespace Mi
open PySem PySem.Spec PyProof.Rows L2
section
variable {X : Cx} {Tb : Tbs}
theorem mf_disp {es : List Expr} {pos : Pos} {ms : List (M D)} (h : PA X es (Ta (kx X Tb) (E.args ms))) (hl : ms.length ≤ 1000 := by decide) : PE X (.List es pos) (Tf (kx X Tb) (N.disp ms)) := by
  refine pe_imp (pe_lst h) fun σ H Q ⟨B, F, rho, om, z, R, xs, z', e, k⟩ => ?_
  refine ⟨B, F, rho, om, z, R, xs, z', e, fun F1 rho1 H1 vs s1 p1 R1 r1 => ⟨?_, fun p hp => ?_⟩⟩
  · have hv := r1.length
    have hx := args_len e
    exact Nat.le_trans (by omega) (show 1000 ≤ sizeLine by decide)
  · obtain ⟨R2, f2⟩ := R1.new (o := .lst vs) hp
    exact k F1 rho1 _ _ s1 p1 R2 ⟨p, vs, rfl, upd_same, f2, r1⟩
/-- a new list laid down -/
theorem me_frz {e : Expr} {m : M (List D)} (h : PE X e (Tf (kx X Tb) m)) : PE X e (Te (kx X Tb) (E.frz m)) := by
  refine pe_imp h fun σ H Q ⟨B, F, rho, om, z, g⟩ => ?_
  refine (g.bnd.imp fun _ _ H1 _ _ v _ _ _ _ _ ⟨F2, rho2, z2, xs, eg1, s1, p1, ⟨p, vs, hv, hp, f, r1⟩, g1⟩ => ?_).tx (R := rF (kx X Tb))
  subst hv
  obtain ⟨R, d, z4, e, k⟩ := g1
  cases e
  obtain ⟨R3, s3⟩ := R.lay f hp
  exact k _ rho2 _ _ s3 (List.prefix_refl _) R3 (.pure (.lst upd_same (r1.mono s3 (List.prefix_refl _))))
/-- a new list joins the shared heap -/
theorem me_shr {e : Expr} {m : M (List D)} (h : PE X e (Tf (kx X Tb) m)) : PE X e (Te (kx X Tb) (E.shr m)) := by
  refine pe_imp h fun σ H Q ⟨B, F, rho, om, z, g⟩ => ?_
  refine (g.bnd.imp fun _ _ H1 _ _ v _ _ _ _ _ ⟨F2, rho2, z2, xs, eg1, s1, p1, ⟨p, vs, hv, hp, f, r1⟩, g1⟩ => ?_).tx (R := rF (kx X Tb))
  subst hv
  obtain ⟨R, d, z4, e, k⟩ := g1
  cases e
  obtain ⟨R3, q3⟩ := R.share (d := .lst xs) f ⟨vs, hp, r1⟩
  exact k _ _ _ _ (Same.refl _) (List.prefix_append _ _) R3 (.pure (.ref q3))
theorem Rps.atI {K : Kx} {F : Hp} {rho : List Addr} {ds : List D} {vs : List V} {i : Int} {d : D} (r : Rps K F rho ds vs) (h : L2.atI ds i = some d) : ∃ v, L2.atI vs i = some v ∧ Rp K F rho d v := by
  unfold L2.atI at h ⊢
  rw [← r.length]
  cases q : ixN ds.length i with
  | none =>
    rw [q] at h
    cases h
  | some j =>
    rw [q] at h
    exact r.get h
theorem ix_ok {K : Kx} : OpV K (fun x y H Q => rIxL K x y H Q ∨ rIxT K x y H Q) O.ix := by
  intro B F rho om z σ H x y xv yv d R rx ry e Q k
  unfold O.ix at e
  split at e
  · rename_i t ds i hc
    obtain ⟨a, xs, rfl, q, h⟩ := cont_ok R rx hc
    cases ry with
    | pure ry =>
      cases ry
      obtain ⟨v, hv, rv⟩ := q.atI e
      have fin := k F H v (Same.refl F) R (.pure rv)
      rcases h with ⟨_, h⟩ | ⟨_, h⟩
      · exact .inl ⟨a, xs, i, v, rfl, rfl, h, hv, fin⟩
      · exact .inr ⟨a, xs, i, v, rfl, rfl, h, hv, fin⟩
  · cases e
theorem me_ix {a b : Expr} {pos : Pos} {ma mb : M D} (ha : PE X a (Te (kx X Tb) ma)) (hb : PE X b (Te (kx X Tb) mb)) (hs : PlainIx b := by exact fun _ _ => rfl) : PE X (.Subscript a b pos) (Te (kx X Tb) (E.op O.ix ma mb)) :=
  pe_imp (pe_ix (ix_list.or ix_tup) ha hb hs) (op_go ix_ok)
theorem call_go {K : Kx} {n : Nat} {mf : Fn} {ms : List (M D)} {es : List Expr} {XE : XK} (hn : ms.length = n) : ∀ σ H Q, Te K (E.call mf ms) σ H Q → tCall (spM n K mf) [] XE (Ta K (E.args ms)) σ H Q := by
  rintro σ H Q ⟨B, F, rho, om, z, g⟩
  refine (g.bnd.imp fun _ _ H1 _ _ vs _ _ _ _ _ ⟨F2, rho2, z2, xs, eg1, s1, p1, r1, g1⟩ => ?_).tx (R := rA K)
  obtain ⟨R, d, z4, e, k⟩ := g1
  dsimp only at e
  split at e
  · cases e
  · rename_i d' h' hd
    cases e
    rw [List.append_nil]
    have hx := args_len eg1
    refine ⟨by rw [← r1.length, hx, hn], F2, rho2, z2.h, xs, R.rh, r1, _, _, hd, fun F' rho' H' v e1 e2 r fr nf nr q => ?_⟩
    exact k F' rho' H' v e1 e2 (R.called e1 e2 r fr nf nr) (.pure q)
theorem me_call {k : Nat} {f : Addr} {fd : FuncData} {ps : List Str} {n : Nat} {mf : Fn} {x : Str} {p pos : Pos} {e : Expr} {es : List Expr} {ms : List (M D)} (G : FnOk X.prog X.w X.K X.mg X.base CX0 k f fd ps (spM n (kx X Tb) mf)) (hr : Room k X.A) (hg : Gl X x) (hm : X.mg x = some (.ref f))
    (hk : PySem.W.keepIn X.K (.ref f) = true) (hb : Binds X.K fd ps []) (ha : PA X (e :: es) (Ta (kx X Tb) (E.args ms))) (hn : ms.length = n := by rfl) (hdb : (x == ("__debug__" : Str)) = false := by decide) (he : starEach (e :: es) X.env = (false, eval e X.env) :: starEach es X.env := by rfl)
    (hpl : (backTo pos (starEach es X.env)).any (·.1) = false := by rfl) : PE X (.Call (.Name x p) (e :: es) [] pos) (Te (kx X Tb) (E.call mf ms)) :=
  pe_imp (pe_call G hr hg hm hk hb .nil pass0 ha hdb he hpl) (call_go (es := es) hn)
inductive Rvs (K : Kx) (F : Hp) (rho : List Addr) (om : Nat → Option Addr) : List D → List V → Prop
  | nil : Rvs K F rho om [] []
  | cons {d : D} {v : V} {ds : List D} {vs : List V} : Rv K F rho om d v → Rvs K F rho om ds vs → Rvs K F rho om (d :: ds) (v :: vs)
def CallV (K : Kx) (r : List V → Hp → VK → Prop) (f : List D → Z → Option D) : Prop :=
  ∀ {B : Bs} {F : Hp} {rho : List Addr} {om : Nat → Option Addr} {z : Z} {σ : L2.St} {H : Hp} {xs : List D} {vs : List V} {d : D}, Rl K B F rho om z σ H → Rvs K F rho om xs vs → f xs z = some d →
    ∀ Q : VK, (∀ F' H' v, Same F F' → Rl K B F' rho om z σ H' → Rv K F' rho om d v → Q v H') → r vs H Q
theorem blt1_go {K : Kx} {r : List V → Hp → VK → Prop} {f : List D → Z → Option D} (hv : CallV K r f) {m : M D} : ∀ σ H Q, Te K (E.blt f [m]) σ H Q → tCB r (tCons (Te K m) tNil) σ H Q := by
  rintro σ H Q ⟨B, F, rho, om, z, g⟩
  have g : Go K (rV K) B F rho om (bnd m fun x => fun z => match f [x] z with | none => none | some d => some (d, z)) z σ H Q := g
  refine (g.bnd.imp fun _ _ H1 _ _ v _ _ _ _ _ ⟨F2, rho2, z2, x, eg1, s1, p1, r1, g1⟩ => ?_).tx (R := rV K)
  obtain ⟨R, d, z4, e, k⟩ := g1
  dsimp only at e
  split at e
  · cases e
  · rename_i d' hd
    cases e
    exact hv R (.cons r1 .nil) hd Q fun F' H' v s R' q => k F' rho2 H' v s (List.prefix_refl _) R' q
structure CallM (X : Cx) (g : Value) (f : List D → Z → Option D) : Prop where
  rl : ∃ r, CallR X g r ∧ ∀ Tb, CallV (kx X Tb) r f
theorem me_blt1 {id : String} {f : List D → Z → Option D} {x : Str} {p pos : Pos} {e : Expr} {m : M D} (hc : CallM X (.builtin id) f) (hg : Gl X x) (hm : X.mg x = none) (hv : bootBuiltins x = some (.builtin id)) (ha : PE X e (Te (kx X Tb) m)) (hn : x ≠ "__name__" := by decide) (hdb : (x == ("__debug__" : Str)) = false := by decide)
    (he : starEach [e] X.env = (false, eval e X.env) :: starEach [] X.env := by rfl) (hpl : (backTo pos (starEach [] X.env)).any (·.1) = false := by rfl) : PE X (.Call (.Name x p) [e] [] pos) (Te (kx X Tb) (E.blt f [m])) := by
  obtain ⟨r, h1, h2⟩ := hc.rl
  exact pe_imp (pe_callB h1 hg hm hv (pa_cons ha pa_nil he) hn hdb he hpl) (blt1_go (h2 _))
theorem me_ty1 {T : String} {f : List D → Z → Option D} {x : Str} {p pos : Pos} {e : Expr} {m : M D} (hc : CallM X (.type T) f) (hg : Gl X x) (hm : X.mg x = none) (hv : bootBuiltins x = some (.type T)) (ha : PE X e (Te (kx X Tb) m)) (hn : x ≠ "__name__" := by decide) (hdb : (x == ("__debug__" : Str)) = false := by decide)
    (he : starEach [e] X.env = (false, eval e X.env) :: starEach [] X.env := by rfl) (hpl : (backTo pos (starEach [] X.env)).any (·.1) = false := by rfl) : PE X (.Call (.Name x p) [e] [] pos) (Te (kx X Tb) (E.blt f [m])) := by
  obtain ⟨r, h1, h2⟩ := hc.rl
  exact pe_imp (pe_callTy h1 hg hm hv (pa_cons ha pa_nil he) hn hdb he hpl) (blt1_go (h2 _))
theorem rvs1 {K : Kx} {F : Hp} {rho : List Addr} {om : Nat → Option Addr} {x : D} {vs : List V} (r : Rvs K F rho om [x] vs) : ∃ v, vs = [v] ∧ Rv K F rho om x v := by
  cases r with
  | cons r t =>
    cases t
    exact ⟨_, rfl, r⟩
theorem rv_int {K : Kx} {F : Hp} {rho : List Addr} {om : Nat → Option Addr} {i : Int} {v : V} (r : Rv K F rho om (.int i) v) : v = .int i := by
  cases r with
  | pure r =>
    cases r
    rfl
theorem f_len : CallM X (.builtin "len") F.len := by
  refine ⟨_, call_len_seq, ?_⟩
  intro Tb B F rho om z σ H xs vs d R r e Q k
  unfold Mi.F.len at e
  split at e
  · obtain ⟨v, rfl, rv⟩ := rvs1 r
    split at e
    · rename_i t ds hc
      cases e
      obtain ⟨a, ys, rfl, q, h⟩ := cont_ok R rv hc
      refine ⟨a, ys, rfl, ?_, ?_⟩
      · rcases h with ⟨_, h⟩ | ⟨_, h⟩
        · exact .inl h
        · exact .inr h
      · rw [← q.length]
        exact k F H _ (Same.refl F) R (.pure (.int _))
    · cases e
  · cases e
theorem f_abs : CallM X (.builtin "abs") F.abs := by
  refine ⟨_, call_abs, ?_⟩
  intro Tb B F rho om z σ H xs vs d R r e Q k
  unfold Mi.F.abs at e
  split at e
  · cases e
    obtain ⟨v, rfl, rv⟩ := rvs1 r
    obtain rfl := rv_int rv
    exact ⟨_, rfl, k F H _ (Same.refl F) R (.pure (.int _))⟩
  · cases e
theorem f_int1 : CallM X (.type "int") F.int1 := by
  refine ⟨_, call_int1, ?_⟩
  intro Tb B F rho om z σ H xs vs d R r e Q k
  unfold Mi.F.int1 at e
  split at e
  · cases e
    obtain ⟨v, rfl, rv⟩ := rvs1 r
    obtain rfl := rv_int rv
    exact .inl ⟨_, rfl, k F H _ (Same.refl F) R (.pure (.int _))⟩
  · cases e
    obtain ⟨v, rfl, rv⟩ := rvs1 r
    have ev : ∀ {k : Bool}, Rv (kx X Tb) F rho om (.bl k) v → v = .bl k := fun rv => by
      cases rv with
      | pure rv => cases rv; rfl
    exact .inr ⟨_, by rw [ev rv], k F H _ (Same.refl F) R (.pure (.int _))⟩
  · cases e
theorem cont_tup {d : D} {z : Z} {ds : List D} (h : cont d z = some (true, ds)) : d = .tup ds ∨ d = .kt ds := by
  unfold cont at h
  split at h
  · cases h
  · cases h
    exact .inl rfl
  · cases h
    exact .inr rfl
  · cases h
  · split at h <;> cases h
  · split at h <;> cases h
  · cases h
end
end Mi
set_option Elab.async false
set_option linter.all false
set_option maxRecDepth 100000
namespace Mi
open PySem PySem.Spec PyProof.Rows L2
section
variable {X : Cx} {Tb : Tbs}
theorem mw_and1 {a : Expr} {m : M Bool} {pos : Pos} (ha : PT X a (Tt (kx X Tb) m)) : PW X (.BoolOp .And [a] pos) (Tt (kx X Tb) m) := pw_and1 ha
theorem mw_or1 {a : Expr} {m : M Bool} {pos : Pos} (ha : PT X a (Tt (kx X Tb) m)) : PW X (.BoolOp .Or [a] pos) (Tt (kx X Tb) m) := pw_or1 ha
theorem mw_and {a b : Expr} {rest : List Expr} {m n : M Bool} {pos : Pos} (ha : PT X a (Tt (kx X Tb) m)) (hb : PW X (.BoolOp .And (b :: rest) pos) (Tt (kx X Tb) n)) : PW X (.BoolOp .And (a :: b :: rest) pos) (Tt (kx X Tb) (T.and m n)) := by
  refine pw_imp (pw_and ha hb) fun σ H Q ⟨B, F, rho, om, z, g⟩ => ?_
  refine (g.bnd.imp fun _ _ H1 _ _ c _ _ _ _ _ ⟨F2, rho2, z2, x, eg1, s1, p1, r1, g1⟩ => ?_).tx (R := rB)
  have r1 : c = x := r1
  subst r1
  cases c with
  | true => exact g1.tx
  | false => exact g1.ret false rfl
theorem mw_or {a b : Expr} {rest : List Expr} {m n : M Bool} {pos : Pos} (ha : PT X a (Tt (kx X Tb) m)) (hb : PW X (.BoolOp .Or (b :: rest) pos) (Tt (kx X Tb) n)) : PW X (.BoolOp .Or (a :: b :: rest) pos) (Tt (kx X Tb) (T.or m n)) := by
  refine pw_imp (pw_or ha hb) fun σ H Q ⟨B, F, rho, om, z, g⟩ => ?_
  refine (g.bnd.imp fun _ _ H1 _ _ c _ _ _ _ _ ⟨F2, rho2, z2, x, eg1, s1, p1, r1, g1⟩ => ?_).tx (R := rB)
  have r1 : c = x := r1
  subst r1
  cases c with
  | true => exact g1.ret true rfl
  | false => exact g1.tx
theorem mt_not {a : Expr} {m : M Bool} {pos : Pos} (ha : PT X a (Tt (kx X Tb) m)) : PT X (.UnaryOp .Not a pos) (Tt (kx X Tb) (T.not m)) := by
  refine pt_imp (pt_not ha) fun σ H Q ⟨B, F, rho, om, z, g⟩ => ?_
  refine (g.bnd.imp fun _ _ H1 _ _ c _ _ _ _ _ ⟨F2, rho2, z2, x, eg1, s1, p1, r1, g1⟩ => ?_).tx (R := rB)
  have r1 : c = x := r1
  subst r1
  exact g1.ret _ rfl
/-- an expression by its truth -/
theorem Rps.isEmpty {K : Kx} {F : Hp} {rho : List Addr} {ds : List D} {vs : List V} (r : Rps K F rho ds vs) : (!ds.isEmpty) = !vs.isEmpty := by cases r <;> rfl
theorem mt_tru {a : Expr} {m : M D} (ha : PE X a (Te (kx X Tb) m)) (he : ∀ whole, isTrue a X.env whole = (do let v ← whole; standAt a.pos; holding [v] (truthy v)) := by intro _; rfl) : PT X a (Tt (kx X Tb) (T.tru m)) := by
  refine pt_imp (pt_truth ha he) fun σ H Q ⟨B, F, rho, om, z, g⟩ => ?_
  refine (g.bnd.imp fun _ _ H1 _ _ v _ _ _ _ _ ⟨F2, rho2, z2, x, eg1, s1, p1, r1, g1⟩ => ?_).tx (R := rV (kx X Tb))
  obtain ⟨R, k, z4, e, kk⟩ := g1
  dsimp only at e
  split at e
  · rename_i k' hk
    cases e
    refine ⟨k, ?_, kk F2 rho2 H1 k (Same.refl _) (List.prefix_refl _) R rfl⟩
    have byc : ∀ {d : D}, (match cont d z2 with | some (_, ds) => some (!ds.isEmpty) | none => none) = some k → Rv (kx X Tb) F2 rho2 om d v → TruV X.K v H1 k := fun {d} e r => by
      split at e
      · rename_i t ds hc
        cases e
        obtain ⟨a, xs, rfl, q, h⟩ := cont_ok R r hc
        rcases h with ⟨_, h⟩ | ⟨_, h⟩
        · exact .inl ⟨xs, h, q.isEmpty⟩
        · exact .inr (.inl ⟨xs, h, q.isEmpty⟩)
      · cases e
    unfold O.tru at hk
    split at hk
    · cases hk
      cases r1 with
      | pure r1 => cases r1; rfl
    · cases hk
      cases r1 with
      | pure r1 => cases r1; rfl
    · cases hk
      cases r1 with
      | pure r1 => cases r1; rfl
    · exact byc hk r1
  · cases e
mutual
theorem toP_ok {K : Kx} {F H : Hp} {rho : List Addr} (e : Same F H) : ∀ {d : D} {v : V} {p : PyData}, O.toP d = some p → Rp K F rho d v → Dp K H v p
  | .non, _, _, h, .non => by cases h; exact .non
  | .bl b, _, _, h, .bl _ => by cases h; exact .bl b
  | .int i, _, _, h, .int _ => by cases h; exact .int i
  | .str x, _, _, h, .str _ => by cases h; exact .str x
  | .tup xs, _, _, h, .tup q r => by
    rw [O.toP] at h
    cases hp : O.toPs xs with
    | none => rw [hp] at h; cases h
    | some ps =>
      rw [hp] at h
      cases h
      exact .tup (SqT.of (e _ _ q)) (toPs_ok e hp r)
  | .kt xs, _, _, h, .kt q r => by
    rw [O.toP] at h
    cases hp : O.toPs xs with
    | none => rw [hp] at h; cases h
    | some ps =>
      rw [hp] at h
      cases h
      exact .tup (Same.sqt e q) (toPs_ok e hp r)
  | .lst xs, _, _, h, .lst q r => by
    rw [O.toP] at h
    cases hp : O.toPs xs with
    | none => rw [hp] at h; cases h
    | some ps =>
      rw [hp] at h
      cases h
      exact .lst (SqL.of (e _ _ q)) (toPs_ok e hp r)
  | .scr xs, _, _, h, .scr q r => by
    rw [O.toP] at h
    cases hp : O.toPs xs with
    | none => rw [hp] at h; cases h
    | some ps =>
      rw [hp] at h
      cases h
      exact .lst (e.seq q) (toPs_ok e hp r)
  | .ref n, _, _, h, .ref _ => by rw [O.toP] at h <;> first | cases h | (intros; contradiction)
  | .dk n, _, _, h, _ => by rw [O.toP] at h <;> first | cases h | (intros; contradiction)
  | .dt n, _, _, h, _ => by rw [O.toP] at h <;> first | cases h | (intros; contradiction)
  | .ins n fs, _, _, h, _ => by rw [O.toP] at h <;> first | cases h | (intros; contradiction)
theorem toPs_ok {K : Kx} {F H : Hp} {rho : List Addr} (e : Same F H) : ∀ {ds : List D} {vs : List V} {ps : List PyData}, O.toPs ds = some ps → Rps K F rho ds vs → DpAll K H vs ps
  | [], _, _, h, .nil => by cases h; exact .nil
  | d :: ds, _, _, h, .cons q r => by
    rw [O.toPs] at h
    split at h
    · rename_i a as h1 h2
      cases h
      exact .cons (toP_ok e h1 q) (toPs_ok e h2 r)
    · cases h
end
/-- a list that may change, as it stands -/
theorem snap_ok {K : Kx} {B : Bs} {F : Hp} {rho : List Addr} {om : Nat → Option Addr} {z : Z} {σ : L2.St} {H : Hp} {d : D} {v : V} {p : PyData} (R : Rl K B F rho om z σ H) (r : Rv K F rho om d v) (h : O.toP (O.snap d z) = some p) : Dp K H v p := by
  have byc : ∀ {d : D}, O.toP (match cont d z with | some (_, ds) => .lst ds | none => .own 0) = some p → (∀ b ds, cont d z = some (b, ds) → b = false) → Rv K F rho om d v → Dp K H v p := by
    intro d e hb r
    split at e
    · rename_i t ds hc
      obtain ⟨a, xs, rfl, q, h9⟩ := cont_ok R r hc
      have ht := hb _ _ hc
      rcases h9 with ⟨_, h8⟩ | ⟨h7, h8⟩
      · rw [O.toP] at e
        cases hp : O.toPs ds with
        | none => rw [hp] at e; cases e
        | some ps =>
          rw [hp] at e
          cases e
          exact .lst h8 (toPs_ok R.rh.fro hp q)
      · rw [ht] at h7
        cases h7
    · cases e
  cases d with
  | own i =>
    have hb : ∀ b ds, cont (.own i) z = some (b, ds) → b = false := by
      intro b ds hc
      have hc : (match z.s[i]? with | some (.own (.lst xs)) => some (false, xs) | _ => none) = some (b, ds) := hc
      split at hc
      · cases hc
        rfl
      · cases hc
    exact byc (d := .own i) h hb r
  | ref n =>
    have hb : ∀ b ds, cont (.ref n) z = some (b, ds) → b = false := by
      intro b ds hc
      have hc : (match z.h[n]? with | some (.lst xs) => some (false, xs) | _ => none) = some (b, ds) := hc
      split at hc
      · cases hc
        rfl
      · cases hc
    exact byc (d := .ref n) h hb r
  | _ =>
    cases r with
    | pure r => exact toP_ok R.rh.fro h r
theorem OpR.either {f : Value → Value → Sem Value} {r r' : R2} (h : OpR X f r) (h' : OpR X f r') : OpR X f fun x y H Q => r x y H Q ∨ r' x y H Q := by
  intro pins s σ H x y v u Q I rx ry e
  rcases e with e | e
  · exact h pins s σ H x y v u Q I rx ry e
  · exact h' pins s σ H x y v u Q I rx ry e
theorem eqP_ok {K : Kx} {B : Bs} {F : Hp} {rho : List Addr} {om : Nat → Option Addr} {z : Z} {σ : L2.St} {H : Hp} {x y : D} {v w : V} {k : Bool} (R : Rl K B F rho om z σ H) (rx : Rv K F rho om x v) (ry : Rv K F rho om y w) (h : O.eqP x y z = some k) :
    (∃ a b, v = .str a ∧ w = .str b ∧ k = decide (a = b)) ∨ ∃ d e, Dp K H v d ∧ Dp K H w e ∧ SeqAt.shaped d = true ∧ SeqAt.shaped e = true ∧ k = PyData.eqv d e := by
  unfold O.eqP at h
  split at h
  · rename_i a b
    cases h
    refine .inl ⟨a, b, ?_, ?_, rfl⟩
    · cases rx with | pure r => cases r; rfl
    · cases ry with | pure r => cases r; rfl
  · refine .inr ?_
    unfold O.eqD at h
    split at h
    · rename_i a b ha hb
      split at h
      · rename_i c
        cases h
        exact ⟨a, b, snap_ok R rx ha, snap_ok R ry hb, c.1, c.2, rfl⟩
      · cases h
    · cases h
theorem str_dec {a b : Str} : decide (V.str a = V.str b) = decide (a = b) := by
  by_cases h : a = b
  · subst h; simp
  · rw [decide_eq_false h, decide_eq_false (fun e => h (by cases e; rfl))]
theorem o_eq (hu : X.A.units + 64 < cLine) : OpM X (compareOp .Eq) O.eq := by
  refine ⟨_, OpR.either op_eq (op_eqD hu), ?_⟩
  intro Tb B F rho om z σ H x y xv yv d R rx ry e Q k
  unfold O.eq at e
  cases hk : O.eqP x y z with
  | none => rw [hk] at e; cases e
  | some b =>
    rw [hk] at e
    cases e
    rcases eqP_ok R rx ry hk with ⟨a, b, rfl, rfl, rfl⟩ | ⟨d, e, h1, h2, h3, h4, h5⟩
    · refine .inl ⟨rfl, ?_⟩
      rw [str_dec]
      exact k F H _ (Same.refl F) R (.pure (.bl _))
    · subst h5
      exact .inr ⟨d, e, h1, h2, h3, h4, k F H _ (Same.refl F) R (.pure (.bl _))⟩
theorem o_ne (hu : X.A.units + 64 < cLine) : OpM X (compareOp .NotEq) O.ne := by
  refine ⟨_, OpR.either op_ne (op_neD hu), ?_⟩
  intro Tb B F rho om z σ H x y xv yv d R rx ry e Q k
  unfold O.ne at e
  cases hk : O.eqP x y z with
  | none => rw [hk] at e; cases e
  | some b =>
    rw [hk] at e
    cases e
    rcases eqP_ok R rx ry hk with ⟨a, b, rfl, rfl, rfl⟩ | ⟨d, e, h1, h2, h3, h4, h5⟩
    · refine .inl ⟨rfl, ?_⟩
      rw [str_dec]
      exact k F H _ (Same.refl F) R (.pure (.bl _))
    · subst h5
      exact .inr ⟨d, e, h1, h2, h3, h4, k F H _ (Same.refl F) R (.pure (.bl _))⟩
end
end Mi
set_option Elab.async false
set_option linter.all false
set_option maxRecDepth 100000
namespace Mi
open PySem PySem.Spec PyProof.Rows L2
section
variable {X : Cx} {Tb : Tbs}
theorem flat_rp {K : Kx} {F : Hp} {rho : List Addr} {d : D} {v : V} (r : Rp K F rho d v) (h : O.flat d = true) : flatV v = true := by
  cases r <;> first | rfl | cases h
theorem eqF_rp {K : Kx} {F : Hp} {rho : List Addr} {d e : D} {v w : V} (r : Rp K F rho d v) (q : Rp K F rho e w) (h : O.flat d = true) (h2 : O.flat e = true) : eqV v w = O.eqF d e := by
  cases r <;> try (cases h; done)
  all_goals cases q <;> first | rfl | (cases h2; done)
theorem all_flat {K : Kx} {F : Hp} {rho : List Addr} : ∀ {ds : List D} {vs : List V}, Rps K F rho ds vs → ds.all O.flat = true → vs.all flatV = true
  | _, _, .nil, _ => rfl
  | _, _, .cons r q, h => by
    rw [List.all_cons, Bool.and_eq_true] at h
    rw [List.all_cons, flat_rp r h.1, all_flat q h.2]
    rfl
theorem any_eq {K : Kx} {F : Hp} {rho : List Addr} {x : D} {xv : V} (rx : Rp K F rho x xv) (hx : O.flat x = true) : ∀ {ds : List D} {vs : List V}, Rps K F rho ds vs → ds.all O.flat = true → inV xv vs = ds.any fun y => O.eqF y x
  | _, _, .nil, _ => rfl
  | _, _, .cons r q, h => by
    rw [List.all_cons, Bool.and_eq_true] at h
    have ih := any_eq rx hx q h.2
    unfold inV at ih ⊢
    rw [List.any_cons, List.any_cons, ih, eqF_rp r rx h.1 hx]
theorem o_in : OpM X (compareOp .In) O.isIn := by
  refine ⟨_, op_in_seq, ?_⟩
  intro Tb B F rho om z σ H x y xv yv d R rx ry e Q k
  unfold O.isIn at e
  split at e
  · rename_i t ds hc
    split at e
    · rename_i c
      cases e
      obtain ⟨a, xs, rfl, q, h⟩ := cont_ok R ry hc
      cases rx with
      | own _ => cases c.1
      | pure rx =>
        refine ⟨a, xs, rfl, ?_, flat_rp rx c.1, all_flat q c.2, ?_⟩
        · rcases h with ⟨_, h⟩ | ⟨_, h⟩
          · exact .inl h
          · exact .inr h
        · rw [any_eq rx c.1 q c.2]
          exact k F H _ (Same.refl F) R (.pure (.bl _))
    · cases e
  · cases e
theorem ofInts_ok {K : Kx} {F : Hp} {rho : List Addr} : ∀ {ds : List D} {vs : List V} {ns : List Int}, Mi.F.ofInts ds = some ns → Rps K F rho ds vs → vs = ns.map V.int
  | [], _, _, h, .nil => by cases h; rfl
  | d :: ds, _, _, h, .cons r q => by
    cases d <;> try (cases h; done)
    rename_i i
    rw [Mi.F.ofInts] at h
    cases hn : Mi.F.ofInts ds with
    | none => rw [hn] at h; cases h
    | some ns =>
      rw [hn] at h
      cases h
      cases r
      rw [List.map_cons, ofInts_ok hn q]
theorem lstI_ok {K : Kx} {B : Bs} {F : Hp} {rho : List Addr} {om : Nat → Option Addr} {z : Z} {σ : L2.St} {H : Hp} {d : D} {v : V} {ns : List Int} (R : Rl K B F rho om z σ H) (r : Rv K F rho om d v) (h : Mi.F.lstI d z = some ns) : ∃ a, v = .ref a ∧ SqL K H a (ns.map V.int) := by
  unfold Mi.F.lstI at h
  split at h
  · rename_i ds hc
    obtain ⟨a, xs, rfl, q, h9⟩ := cont_ok R r hc
    obtain rfl := ofInts_ok h q
    rcases h9 with ⟨_, h9⟩ | ⟨h8, _⟩
    · exact ⟨a, rfl, h9⟩
    · cases h8
  · cases h
theorem f_sum (hc : X.calm = true) : CallM X (.builtin "sum") Mi.F.sum := by
  refine ⟨_, cr_sum hc, ?_⟩
  intro Tb B F rho om z σ H xs vs d R r e Q k
  unfold Mi.F.sum at e
  split at e
  · obtain ⟨v, rfl, rv⟩ := rvs1 r
    rename_i x
    cases hl : Mi.F.lstI x z with
    | none => rw [hl] at e; cases e
    | some ns =>
      rw [hl] at e
      cases e
      obtain ⟨a, rfl, h⟩ := lstI_ok R rv hl
      exact ⟨a, ns, rfl, h, k F H _ (Same.refl F) R (.pure (.int _))⟩
  · cases e
theorem tyName_ok {K : Kx} {B : Bs} {F : Hp} {rho : List Addr} {om : Nat → Option Addr} {z : Z} {σ : L2.St} {H : Hp} {d : D} {v : V} {t : String} (R : Rl K B F rho om z σ H) (r : Rv K F rho om d v) (h : Mi.F.tyName d z = some t) : TyX K H v (.type t) := by
  cases r with
  | pure r =>
    cases r with
    | non => cases h; exact .base .non
    | bl b => cases h; exact .base (.bl b)
    | int b => cases h; exact .base (.int b)
    | str b => cases h; exact .base (.str b)
    | tup q _ =>
      cases h
      exact .base (.tup (R.rh.fro _ _ q))
    | kt q _ =>
      cases h
      rcases Same.sqt R.rh.fro q with (q | ⟨o, q⟩) | ⟨o, its, n, q, c, _⟩
      · exact .base (.tup q)
      · exact .fTuple q
      · exact .kTuple q c
    | lst q _ =>
      cases h
      exact .base (.lst (R.rh.fro _ _ q))
    | @ref n a q =>
      have h : (match z.h[n]? with | some (.lst _) => some "list" | _ => none) = some t := h
      split at h
      · rename_i xs hx
        cases h
        obtain ⟨ys, h1, h2⟩ := R.rh.obs n _ a hx q
        exact .base (.lst h1)
      · cases h
    | _ => cases h
  | @own i a q =>
    have h : (match z.s[i]? with | some (.own (.lst _)) => some "list" | _ => none) = some t := h
    split at h
    · rename_i xs hx
      cases h
      obtain ⟨a', h1, _, h2⟩ := R.sl i _ hx
      rw [q] at h1
      cases h1
      obtain ⟨ys, h3, h4⟩ := h2
      exact .base (.lst h3)
    · cases h
/-- the answer: T the class's name -/
def F.isi (T : String) (x : D) (z : Z) : Option D := match Mi.F.tyName x z with
  | some t => (kitB t T).map .bl
  | none => none
theorem isi_go {K : Kx} {T : String} {m : M D} : ∀ σ H Q, Te K (E.un (Mi.F.isi T) m) σ H Q → tCB (rIsi K) (tCons (Te K m) (tCons (tC (.ty T)) tNil)) σ H Q := by
  rintro σ H Q ⟨B, F, rho, om, z, g⟩
  refine (g.bnd.imp fun _ _ H1 _ _ v _ _ _ _ _ ⟨F2, rho2, z2, x, eg1, s1, p1, r1, g1⟩ => ?_).tx (R := rV K)
  obtain ⟨R, d, z4, e, k⟩ := g1
  dsimp only at e
  split at e
  · cases e
  · rename_i d' hd
    cases e
    unfold Mi.F.isi at hd
    split at hd
    · rename_i t ht
      cases hk : kitB t T with
      | none => rw [hk] at hd; cases hd
      | some b =>
        rw [hk] at hd
        cases hd
        show rIsi K [v, .ty T] H1 Q
        exact ⟨v, .ty T, .type t, .type T, b, rfl, .ty T, tyName_ok R r1 ht, kit_ty hk, k F2 rho2 H1 _ (Same.refl _) (List.prefix_refl _) R (.pure (.bl b))⟩
    · cases hd
theorem me_isi {T : String} {Tn : Str} {p p2 pos : Pos} {e : Expr} {m : M D} (hg : Gl X "isinstance") (hm : X.mg "isinstance" = none) (hg2 : Gl X Tn) (hm2 : X.mg Tn = none) (hv2 : bootBuiltins Tn = some (.type T)) (ha : PE X e (Te (kx X Tb) m)) (hn : Tn ≠ "__name__" := by decide) (hdb : (Tn == ("__debug__" : Str)) = false := by decide)
    (hv : bootBuiltins "isinstance" = some (.builtin "isinstance") := by decide +kernel) (he : starEach [e, .Name Tn p2] X.env = (false, eval e X.env) :: starEach [.Name Tn p2] X.env := by rfl) (he2 : starEach [.Name Tn p2] X.env = (false, eval (.Name Tn p2) X.env) :: starEach [] X.env := by rfl)
    (hpl : (backTo pos (starEach [.Name Tn p2] X.env)).any (·.1) = false := by rfl) : PE X (.Call (.Name "isinstance" p) [e, .Name Tn p2] [] pos) (Te (kx X Tb) (E.un (Mi.F.isi T) m)) :=
  pe_imp (pe_callB call_isi hg hm hv (pa_cons ha (pa_cons (pe_bltn hg2 hm2 hv2 (v := .ty T) rfl hn hdb) pa_nil he2) he) (by decide) (by decide) he hpl) isi_go
theorem mo_none : PO X none (To (kx X Tb) (N.part none)) := po_imp po_none fun σ H Q ⟨B, F, rho, om, z, g⟩ => g.ret none rfl
theorem mo_some {e : Expr} {m : M D} (h : PE X e (Te (kx X Tb) m)) : PO X (some e) (To (kx X Tb) (N.part (some m))) := by
  refine po_imp (po_some h) fun σ H Q ⟨B, F, rho, om, z, g⟩ => ?_
  refine (g.bnd.imp fun _ _ H1 _ _ v _ _ _ _ _ ⟨F2, rho2, z2, x, eg1, s1, p1, r1, g1⟩ => ?_).tx (R := rV (kx X Tb))
  cases r1 with
  | own _ => obtain ⟨_, _, _, e, _⟩ := g1; cases e
  | pure r1 =>
    cases r1 with
    | int i => exact ⟨i, rfl, g1.ret _ rfl⟩
    | _ => obtain ⟨_, _, _, e, _⟩ := g1; cases e
theorem cut_rps {K : Kx} {F : Hp} {rho : List Addr} {ds : List D} {vs : List V} (r : Rps K F rho ds vs) (lo hi : Option Int) : Rps K F rho (N.cutL ds lo hi) (cutV vs lo hi) := by
  unfold N.cutL cutV
  rw [r.length]
  exact (r.drop _).take _
theorem mf_slice {e : Expr} {lo hi : Option Expr} {p2 pos : Pos} {m : M D} {ml mh : Option (M D)} (he : PE X e (Te (kx X Tb) m)) (hl : PO X lo (To (kx X Tb) (N.part ml))) (hu : PO X hi (To (kx X Tb) (N.part mh))) : PE X (.Subscript e (.Slice lo hi none p2) pos) (Tf (kx X Tb) (N.slice m ml mh)) := by
  refine pe_imp (pe_slice sl_list he hl hu) fun σ H Q ⟨B, F, rho, om, z, g⟩ => ?_
  refine (g.bnd.imp fun _ _ H1 _ _ v _ _ _ _ _ ⟨F2, rho2, z2, x, eg1, s1, p1, r1, g1⟩ => ?_).tx (R := rV (kx X Tb))
  refine (g1.bnd.imp fun _ _ H3 _ _ l _ _ _ _ _ ⟨F4, rho4, z4, l', eg2, s2, p2, r2, g2⟩ => ?_).tx (R := rO)
  refine (g2.bnd.imp fun _ _ H5 _ _ u _ _ _ _ _ ⟨F6, rho6, z6, u', eg3, s3, p3, r3, g3⟩ => ?_).tx (R := rO)
  have r2 : l = l' := r2
  have r3 : u = u' := r3
  subst r2 r3
  obtain ⟨R, d, z7, e, k⟩ := g3
  dsimp only at e
  split at e
  · rename_i ds hc
    cases e
    obtain ⟨a, xs, rfl, q, h⟩ := cont_ok R ((r1.mono s2 p2).mono s3 p3) hc
    rcases h with ⟨_, h⟩ | ⟨h8, _⟩
    · refine ⟨a, xs, rfl, h, fun p hp => ?_⟩
      obtain ⟨R2, f2⟩ := R.new (o := .lst (cutV xs l u)) hp
      exact k F6 rho6 _ _ (Same.refl _) (List.prefix_refl _) R2 ⟨p, _, rfl, upd_same, f2, cut_rps q l u⟩
    · cases h8
  · cases e
/-- a list that is no module's constant -/
theorem cont_lst {K : Kx} {B : Bs} {F : Hp} {rho : List Addr} {om : Nat → Option Addr} {z : Z} {σ : L2.St} {H : Hp} {d : D} {v : V} {ds : List D} (R : Rl K B F rho om z σ H) (r : Rv K F rho om d v) (e : cont d z = some (false, ds)) (hs : ∀ xs, d ≠ .scr xs) : ∃ a xs, v = .ref a ∧ Rps K F rho ds xs ∧ H a = some (.lst xs) := by
  cases r with
  | pure r =>
    cases r with
    | lst h q =>
      cases e
      exact ⟨_, _, rfl, q, R.rh.fro _ _ h⟩
    | scr h q => exact absurd rfl (hs _)
    | @ref n a h =>
      have e : (match z.h[n]? with | some (.lst xs) => some (false, xs) | _ => none) = some (false, ds) := e
      split at e
      · rename_i xs hx
        cases e
        obtain ⟨ys, h1, h2⟩ := R.rh.obs n _ a hx h
        exact ⟨a, ys, rfl, h2, h1⟩
      · cases e
    | _ => cases e
  | @own i a h =>
    have e : (match z.s[i]? with | some (.own (.lst xs)) => some (false, xs) | _ => none) = some (false, ds) := e
    split at e
    · rename_i xs hx
      cases e
      obtain ⟨a', h1, _, h2⟩ := R.sl i _ hx
      rw [h] at h1
      cases h1
      obtain ⟨ys, h3, h4⟩ := h2
      exact ⟨a, ys, rfl, h4, h3⟩
    · cases e
theorem szl_ok {n : Nat} (h : n < szl) : n < sizeLine := Nat.lt_trans h (by decide)
theorem mf_cat {a b : Expr} {pos : Pos} {ma mb : M D} (ha : PE X a (Te (kx X Tb) ma)) (hb : PE X b (Te (kx X Tb) mb)) : PE X (.BinOp a .Add b pos) (Tf (kx X Tb) (N.cat ma mb)) := by
  refine pe_imp (pe_op op_cat ha hb) fun σ H Q ⟨B, F, rho, om, z, g⟩ => ?_
  refine (g.bnd.imp fun _ _ H1 _ _ v _ _ _ _ _ ⟨F2, rho2, z2, x, eg1, s1, p1, r1, g1⟩ => ?_).tx (R := rV (kx X Tb))
  refine (g1.bnd.imp fun _ _ H3 _ _ w _ _ _ _ _ ⟨F4, rho4, z4, y, eg2, s2, p2, r2, g2⟩ => ?_).tx (R := rV (kx X Tb))
  obtain ⟨R, d, z7, e, k⟩ := g2
  dsimp only at e
  split at e
  · cases e
  · cases e
  · rename_i hx hy
    split at e
    · rename_i ds es h1 h2
      split at e
      · rename_i hz
        cases e
        obtain ⟨a, xs, rfl, q1, h1⟩ := cont_lst R (r1.mono s2 p2) h1 hx
        obtain ⟨b, ys, rfl, q2, h2⟩ := cont_lst R r2 h2 hy
        refine ⟨a, b, xs, ys, rfl, rfl, h1, h2, ?_, fun p hp => ?_⟩
        · rw [← q1.length, ← q2.length]
          exact Nat.le_of_lt (szl_ok hz)
        · obtain ⟨R2, f2⟩ := R.new (o := .lst (xs ++ ys)) hp
          exact k F4 rho4 _ _ (Same.refl _) (List.prefix_refl _) R2 ⟨p, _, rfl, upd_same, f2, q1.append q2⟩
      · cases e
    · cases e
/-- a change, by values: what the rule asks where the list at l holds xs -/
def ChgV (r : V → List V → Hp → VK → Prop) (f : List D → List D → Option (D × List D)) : Prop :=
  ∀ {K : Kx} {F : Hp} {rho : List Addr} {H : Hp} {l : Addr} {xs vs : List V} {ds as ds' : List D} {d : D}, Same F H → H l = some (.lst xs) → Rps K F rho ds xs → Rps K F rho as vs → f ds as = some (d, ds') →
    ∀ Q : VK, (∀ v xs', Rp K F rho d v → Rps K F rho ds' xs' → Q v (upd H l (.lst xs'))) → r (.ref l) vs H Q
theorem chg_go {K : Kx} {r : V → List V → Hp → VK → Prop} {f : List D → List D → Option (D × List D)} (hv : ChgV r f) {B : Bs} {F : Hp} {rho : List Addr} {om : Nat → Option Addr} {z : Z} {σ : L2.St} {H : Hp} {x : D} {v : V} {xs : List D} {vs : List V} {Q : VK} (r1 : Rv K F rho om x v) (r2 : Rps K F rho xs vs)
    (g : Go K (rV K) B F rho om (E.chgF f x xs) z σ H Q) : r v vs H Q := by
  obtain ⟨R, d, z7, e, k⟩ := g
  cases x with
  | own i =>
    cases r1 with
    | pure r1 => cases r1
    | own h =>
      have e : (match z.s[i]? with
        | some (.own (.lst ds)) => match f ds xs with
          | none => none
          | some (d, ds') => some (d, (⟨z.s.set i (.own (.lst ds')), z.h⟩ : Z))
        | _ => none) = some (d, z7) := e
      split at e
      · rename_i ds hs
        split at e
        · cases e
        · rename_i d' ds' hf
          cases e
          obtain ⟨a', h1, h5, h2⟩ := R.sl i _ hs
          rw [h] at h1
          cases h1
          obtain ⟨ys, h3, h4⟩ := h2
          exact hv R.rh.fro h3 h4 r2 hf Q fun v xs' q1 q2 => k F rho _ _ (Same.refl _) (List.prefix_refl _) (R.mutOwn h hs ⟨xs', upd_same, q2⟩) (.pure q1)
      · cases e
  | ref n =>
    cases r1 with
    | pure r1 =>
      cases r1 with
      | ref h =>
        have e : (match z.h[n]? with
          | some (.lst ds) => match f ds xs with
            | none => none
            | some (d, ds') => some (d, (⟨z.s, z.h.set n (.lst ds')⟩ : Z))
          | _ => none) = some (d, z7) := e
        split at e
        · rename_i ds hs
          split at e
          · cases e
          · rename_i d' ds' hf
            cases e
            obtain ⟨ys, h3, h4⟩ := R.rh.obs n _ _ hs h
            exact hv R.rh.fro h3 h4 r2 hf Q fun v xs' q1 q2 => k F rho _ _ (Same.refl _) (List.prefix_refl _) (R.mutRef h ⟨xs', upd_same, q2⟩) (.pure q1)
        · cases e
  | _ => cases e
/-- what may be changed is a list -/
theorem chg_ty {K : Kx} {B : Bs} {F : Hp} {rho : List Addr} {om : Nat → Option Addr} {z : Z} {σ : L2.St} {H : Hp} {x : D} {v : V} (R : Rl K B F rho om z σ H) (r1 : Rv K F rho om x v) (hx : E.isLst x z = true) : tyV K "list" v H := by
  have byc : ∀ ds b, cont x z = some (b, ds) → (∀ xs, x ≠ .tup xs ∧ x ≠ .kt xs) → tyV K "list" v H := fun ds b hc hn => by
    obtain ⟨a, xs, rfl, q, h⟩ := cont_ok R r1 hc
    rcases h with ⟨_, h⟩ | ⟨hb, _⟩
    · exact .inl ⟨rfl, xs, h⟩
    · rw [hb] at hc
      rcases cont_tup hc with c | c
      · exact absurd c (hn ds).1
      · exact absurd c (hn ds).2
  cases x with
  | own i =>
    cases hc : cont (.own i) z with
    | none =>
      unfold E.isLst at hx
      rw [hc] at hx
      cases hx
    | some p => exact byc p.2 p.1 hc (fun xs => ⟨(fun e => nomatch e), (fun e => nomatch e)⟩)
  | ref i =>
    cases hc : cont (.ref i) z with
    | none =>
      unfold E.isLst at hx
      rw [hc] at hx
      cases hx
    | some p => exact byc p.2 p.1 hc (fun xs => ⟨(fun e => nomatch e), (fun e => nomatch e)⟩)
  | _ => cases hx
theorem bm_go {K : Kx} {r : V → List V → Hp → VK → Prop} {f : List D → List D → Option (D × List D)} (hv : ChgV r f) {m : M D} {ms : List (M D)} : ∀ σ H Q, Te K (E.chg f m ms) σ H Q → tBM K "list" r (Te K m) (Ta K (E.args ms)) σ H Q := by
  rintro σ H Q ⟨B, F, rho, om, z, g⟩
  refine (g.bnd.imp fun _ _ H1 _ _ v _ _ _ _ _ ⟨F2, rho2, z2, x, eg1, s1, p1, r1, g1⟩ => ?_).tx (R := rV K)
  obtain ⟨R, d, z7, e, k⟩ := g1
  dsimp only at e
  split at e
  · rename_i hx
    refine ⟨chg_ty R r1 hx, ?_⟩
    have g2 : Go K (rV K) B F2 rho2 om (bnd (E.args ms) fun xs => E.chgF f x xs) z2 σ H1 Q := ⟨R, d, z7, e, k⟩
    refine (g2.bnd.imp fun _ _ H3 _ _ vs _ _ _ _ _ ⟨F4, rho4, z4, xs, eg4, s4, p4, r4, g4⟩ => ?_).tx (R := rA K)
    exact chg_go hv (r1.mono s4 p4) r4 g4
  · cases e
theorem v_append : ChgV rAppend U.append := by
  intro K F rho H l xs vs ds as ds' d s h q1 q2 e Q k
  unfold U.append at e
  split at e
  · rename_i x
    split at e
    · rename_i hz
      cases e
      cases q2 with
      | cons r t =>
        cases t
        exact ⟨l, xs, _, rfl, rfl, h, by rw [← q1.length]; exact szl_ok hz, k _ _ .non (q1.append (.one r))⟩
    · cases e
  · cases e
theorem v_popAt : ChgV rPopAt U.popAt := by
  intro K F rho H l xs vs ds as ds' d s h q1 q2 e Q k
  unfold U.popAt at e
  split at e
  · rename_i i
    split at e
    · rename_i hi
      split at e
      · rename_i kk hk
        split at e
        · rename_i d' hd
          cases e
          cases q2 with
          | cons r t =>
            cases t
            cases r
            obtain ⟨v, hv, rv⟩ := q1.get hd
            exact ⟨l, xs, i, kk, v, rfl, rfl, h, hi.1, hi.2, by rw [← q1.length]; exact (ixN_seq hk).1, hv, k _ _ rv (q1.eraseIdx kk)⟩
        · cases e
      · cases e
    · cases e
  · cases e
section
variable {o e : Expr} {es : List Expr} {apos cpos : Pos} {m : M D} {ms : List (M D)}
theorem me_append (ho : PE X o (Te (kx X Tb) m)) (ha : PA X (e :: es) (Ta (kx X Tb) (E.args ms))) (hbase : attributeBase o "append" X.env (eval o X.env) = eval o X.env := by rfl)
    (hfew : ((backTo cpos (starEach (e :: es) X.env)).all (fun x => !x.1) && (backToKw cpos (keywordEach [] X.env)).all (fun x => x.1.isSome) && decide ((e :: es).length + ([] : List Keyword).length + (if ([] : List Keyword).isEmpty then 0 else 1) < 30)) = true := by rfl)
    (hline : (apos.endLine == cpos.line) = true := by rfl) (hs : starEach (e :: es) X.env = (false, eval e X.env) :: starEach es X.env := by rfl) (hplain : (backTo cpos (starEach es X.env)).any (·.1) = false := by rfl) :
    PE X (.Call (.Attribute o "append" apos) (e :: es) [] cpos) (Te (kx X Tb) (E.chg U.append m ms)) :=
  pe_imp (pe_bm PySem.F.plainAttrs_list PySem.F.slot_list_append PySem.F.type_list_append mt_append ho ha hbase hfew hline hs hplain) (bm_go v_append)
theorem me_popAt (ho : PE X o (Te (kx X Tb) m)) (ha : PA X (e :: es) (Ta (kx X Tb) (E.args ms))) (hbase : attributeBase o "pop" X.env (eval o X.env) = eval o X.env := by rfl)
    (hfew : ((backTo cpos (starEach (e :: es) X.env)).all (fun x => !x.1) && (backToKw cpos (keywordEach [] X.env)).all (fun x => x.1.isSome) && decide ((e :: es).length + ([] : List Keyword).length + (if ([] : List Keyword).isEmpty then 0 else 1) < 30)) = true := by rfl)
    (hline : (apos.endLine == cpos.line) = true := by rfl) (hs : starEach (e :: es) X.env = (false, eval e X.env) :: starEach es X.env := by rfl) (hplain : (backTo cpos (starEach es X.env)).any (·.1) = false := by rfl) :
    PE X (.Call (.Attribute o "pop" apos) (e :: es) [] cpos) (Te (kx X Tb) (E.chg U.popAt m ms)) :=
  pe_imp (pe_bm PySem.F.plainAttrs_list PySem.F.slot_list_pop PySem.F.type_list_pop mt_popAt ho ha hbase hfew hline hs hplain) (bm_go v_popAt)
end
end
end Mi
set_option Elab.async false
set_option linter.all false
set_option maxRecDepth 100000
namespace Mi
open PySem PySem.Spec PyProof.Rows L2
def Tg (K : Kx) (g : G) : TG := fun v σ H Q => ∃ B F rho om z d, Rl K B F rho om z σ H ∧ Rp K F rho d v ∧ ∃ z', g.run d z = some z' ∧
  ∀ om' σ', (∀ j, ¬ j ∈ g.ws → om' j = om j ∧ σ'[j]? = σ[j]?) → σ'.length = σ.length → (∀ j a, om' j = some a → om j = some a) → Rl K B F rho om' z' σ' H → Q σ' H
def Tgs (K : Kx) (gs : List G) : TGs := fun vs σ H Q => ∃ B F rho om z ds, Rl K B F rho om z σ H ∧ Rps K F rho ds vs ∧ ∃ z', G.runs gs ds z = some z' ∧
  ∀ om' σ', (∀ j, ¬ j ∈ gs.flatMap G.ws → om' j = om j ∧ σ'[j]? = σ[j]?) → σ'.length = σ.length → (∀ j a, om' j = some a → om j = some a) → Rl K B F rho om' z' σ' H → Q σ' H
section
variable {X : Cx} {Tb : Tbs}
theorem mg_nm {i : Nat} {x : Str} {pos : Pos} (hN : X.N.Nodup) (hi : X.N[i]? = some x := by rfl) (hx : Loc X.env.scope x := by first | exact Or.inl rfl | exact Or.inr rfl)
    (hf : X.fn x = true ∨ X.env.scope.names.lookup x = some .local := by first | exact .inl rfl | exact .inr rfl) : PG X (.Name x pos) (Tg (kx X Tb) (G.nm i)) := by
  refine pg_imp (pg_name hN hi hx hf) fun v σ H Q ⟨B, F, rho, om, z, d, R, r, z', e, k⟩ => ?_
  cases e
  refine k (omSet om i none) _ (fun j hj => ?_) (by rw [List.length_set]) (fun j a h => (omSet_none h).2) (R.setVal i r)
  have hj : ¬ j = i := fun q => hj (by rw [q]; exact List.mem_singleton.mpr rfl)
  exact ⟨omSet_ne hj, List.getElem?_set_ne (Ne.symm hj)⟩
theorem mgs_nil : PGs X [] (Tgs (kx X Tb) []) := by
  refine pgs_imp pgs_nil fun vs σ H Q ⟨B, F, rho, om, z, ds, R, r, z', e, k⟩ => ?_
  cases r with
  | nil =>
    cases e
    exact ⟨rfl, k om σ (fun _ _ => ⟨rfl, rfl⟩) rfl (fun _ _ h => h) R⟩
  | cons _ _ => cases e
theorem mgs_cons {e : Expr} {es : List Expr} {g : G} {gs : List G} (h1 : PG X e (Tg (kx X Tb) g)) (h2 : PGs X es (Tgs (kx X Tb) gs)) (hs : (assignEach (e :: es) X.env).map (·.2) = assign e X.env :: (assignEach es X.env).map (·.2) := by rfl) : PGs X (e :: es) (Tgs (kx X Tb) (g :: gs)) := by
  refine pgs_imp (pgs_cons h1 h2 hs) fun vs σ H Q ⟨B, F, rho, om, z, ds, R, r, z', e, k⟩ => ?_
  cases r with
  | nil => cases e
  | @cons d v ds vs r q =>
    have e : (match g.run d z with | none => none | some z1 => G.runs gs ds z1) = some z' := e
    split at e
    · cases e
    · rename_i z1 h1
      refine ⟨v, vs, rfl, B, F, rho, om, z, d, R, r, z1, h1, fun om1 σ1 w1 l1 o1 R1 => ?_⟩
      refine ⟨B, F, rho, om1, z1, ds, R1, q, z', e, fun om2 σ2 w2 l2 o2 R2 => ?_⟩
      refine k om2 σ2 (fun j hj => ?_) (l2.trans l1) (fun j a h => o1 j a (o2 j a h)) R2
      rw [List.flatMap_cons, List.mem_append] at hj
      obtain ⟨a1, b1⟩ := w1 j fun q => hj (.inl q)
      obtain ⟨a2, b2⟩ := w2 j fun q => hj (.inr q)
      exact ⟨a2.trans a1, b2.trans b1⟩
theorem runs_len : ∀ {gs : List G} {ds : List D} {z z' : Z}, G.runs gs ds z = some z' → ds.length = gs.length
  | [], [], _, _, _ => rfl
  | [], _ :: _, _, _, h => by cases h
  | _ :: _, [], _, _, h => by cases h
  | g :: gs, d :: ds, z, z', h => by
    have e : (match g.run d z with | none => none | some z1 => G.runs gs ds z1) = some z' := h
    split at e
    · cases e
    · rw [List.length_cons, List.length_cons, runs_len e]
theorem mg_tp {es : List Expr} {k : Nat} {pos : Pos} {gs : List G} (hc : X.calm = true) (h : PGs X es (Tgs (kx X Tb) gs)) (hn : (assignEach es X.env).length = gs.length := by rfl) (hst : (assignEach es X.env).findIdx? (·.1) = none := by rfl) : PG X (.Tuple es k pos) (Tg (kx X Tb) (G.tp gs)) := by
  refine pg_imp (pg_tup hc h hn hst) fun v σ H Q ⟨B, F, rho, om, z, d, R, r, z', e, k⟩ => ?_
  cases r with
  | tup q r =>
    have hl := r.length
    have hl2 := runs_len (show G.runs gs _ z = some z' from e)
    exact ⟨_, _, rfl, SqT.of (R.rh.fro _ _ q), by omega, B, F, rho, om, z, _, R, r, z', e, k⟩
  | kt q r =>
    have hl := r.length
    have hl2 := runs_len (show G.runs gs _ z = some z' from e)
    exact ⟨_, _, rfl, Same.sqt R.rh.fro q, by omega, B, F, rho, om, z, _, R, r, z', e, k⟩
  | _ => cases e
theorem mg_tl {es : List Expr} {k : Nat} {pos : Pos} {gs : List G} (hc : X.calm = true) (h : PGs X es (Tgs (kx X Tb) gs)) (hn : (assignEach es X.env).length = gs.length := by rfl) (hst : (assignEach es X.env).findIdx? (·.1) = none := by rfl) : PG X (.Tuple es k pos) (Tg (kx X Tb) (G.tl gs)) := by
  refine pg_imp (pg_unl hc h hn hst) fun v σ H Q ⟨B, F, rho, om, z, d, R, r, z', e, k⟩ => ?_
  cases r with
  | lst q r =>
    have hl := r.length
    have hl2 := runs_len (show G.runs gs _ z = some z' from e)
    exact ⟨_, _, rfl, SqL.of (R.rh.fro _ _ q), by omega, B, F, rho, om, z, _, R, r, z', e, k⟩
  | _ => cases e
end
/-- the iterator gives the items, as long as what is walked stands as it is -/
def ItOk (K : Kx) (F : Hp) (rho : List Addr) (om : Nat → Option Addr) (it : It) (J : L2.It) : Prop :=
  ∀ B2 F2 rho2 om2 z2 σ2 H2, Same F F2 → rho <+: rho2 → Rl K B2 F2 rho2 om2 z2 σ2 H2 → (om2 = om ∨ ∀ j, it.chk ≠ some (.own j)) → it.ok z2 = true →
    (∀ i, it.items.length ≤ i → J.stop i H2) ∧ ∀ i d, it.items[i]? = some d → J.go i H2 ∧ ∀ x H3, J.yld i H2 x H3 → H3 = H2 ∧ ∃ F3, Same F2 F3 ∧ (∀ a o, H2 a = some o → NT o → F2 a = none → F3 a = none) ∧ Rl K B2 F3 rho2 om2 z2 σ2 H2 ∧ Rp K F3 rho2 d x
def Ti (K : Kx) (mi : M It) : TI := fun σ H R => ∃ B F rho om z, Rl K B F rho om z σ H ∧ ∃ it z', mi z = some (it, z') ∧
  ∀ F' rho' H' J, Same F F' → rho <+: rho' → Rl K B F' rho' om z' σ H' → ItOk K F' rho' om it J → R J H'
/-- no slot's own list is walked -/
def noOwn (mi : M It) : Prop := ∀ z it z' j, mi z = some (it, z') → it.chk ≠ some (.own j)
section
variable {X : Cx} {Tb : Tbs} {tg : Expr}
def iSeq (K : PySem.W.Frag) (tl : TE) : TI := fun σ H R => tl σ H fun x H1 => ∃ a, x = .ref a ∧ (((∃ xs, SqL K H1 a xs) ∧ R (Itl K a) H1) ∨ ((∃ xs, SqT K H1 a xs) ∧ R (Itt K a) H1))
theorem pi_seq {l : Expr} {tl : TE} (hl : PE X l tl) : PI X tg l (iSeq X.K tl) := by
  refine ⟨fun pins s σ H R I h => ?_⟩
  refine thn (hl.run pins s σ H _ I h) fun v s1 ⟨x, H1, I1, r1, q1⟩ => ?_
  obtain ⟨a, e, q⟩ := q1
  subst e
  cases r1
  rcases q with ⟨⟨xs, hq⟩, q⟩ | ⟨⟨xs, hq⟩, q⟩
  · obtain ⟨its, rv, p, hz⟩ := I1.list hq
    refine wpAny_pyIter_list p.isList ?_
    refine ⟨s1.heap.objs.size, [s1.heap.objs.size], _, _, H1, rfl, I1.kept (t' := s1.toks) fun b o e => Heap.get?_push_of_some _ e, turn_list a _, ⟨_, Heap.get?_push_size _ rfl, rfl, rfl⟩, fun b hb => ?_, q⟩
    have e : b = s1.heap.objs.size := by simpa using hb
    subst e
    exact I1.fpOk (Nat.le_refl _) (I1.hok.fresh (Nat.le_refl _))
  · obtain ⟨its, rv, p, hz⟩ := I1.tuple hq
    refine wpAny_pyIter_tuple (show s1.heap.IsTuple a its.toArray from p) ?_
    refine ⟨s1.heap.objs.size, [s1.heap.objs.size], _, _, H1, rfl, I1.kept (t' := s1.toks) fun b o e => Heap.get?_push_of_some _ e, turn_tuple a _, ⟨_, Heap.get?_push_size _ rfl, rfl, rfl⟩, fun b hb => ?_, q⟩
    have e : b = s1.heap.objs.size := by simpa using hb
    subst e
    exact I1.fpOk (Nat.le_refl _) (I1.hok.fresh (Nat.le_refl _))
/-- the iterator over a list at a -/
theorem itl_ok {K : Kx} {F : Hp} {rho : List Addr} {om : Nat → Option Addr} {it : It} {a : Addr}
    (h : ∀ B2 F2 rho2 om2 z2 σ2 H2, Same F F2 → rho <+: rho2 → Rl K B2 F2 rho2 om2 z2 σ2 H2 → (om2 = om ∨ ∀ j, it.chk ≠ some (.own j)) → it.ok z2 = true → ∃ xs, SqL K H2 a xs ∧ Rps K F2 rho2 it.items xs) : ItOk K F rho om it (Itl K a) := by
  intro B2 F2 rho2 om2 z2 σ2 H2 s p R ho hk
  obtain ⟨xs, hq, r⟩ := h B2 F2 rho2 om2 z2 σ2 H2 s p R ho hk
  refine ⟨fun i hi => ⟨xs, hq, by rw [← r.length]; exact hi⟩, fun i d hd => ?_⟩
  obtain ⟨v, hv, rv⟩ := r.get hd
  refine ⟨⟨xs, v, hq, hv⟩, fun x H3 ⟨e, y⟩ => ⟨e, F2, Same.refl _, fun _ _ _ _ n => n, R, ?_⟩⟩
  have q := y xs hq
  rw [hv] at q
  cases q
  exact rv
theorem itt_ok {K : Kx} {F : Hp} {rho : List Addr} {om : Nat → Option Addr} {it : It} {a : Addr}
    (h : ∀ B2 F2 rho2 om2 z2 σ2 H2, Same F F2 → rho <+: rho2 → Rl K B2 F2 rho2 om2 z2 σ2 H2 → (om2 = om ∨ ∀ j, it.chk ≠ some (.own j)) → it.ok z2 = true → ∃ xs, SqT K H2 a xs ∧ Rps K F2 rho2 it.items xs) : ItOk K F rho om it (Itt K a) := by
  intro B2 F2 rho2 om2 z2 σ2 H2 s p R ho hk
  obtain ⟨xs, hq, r⟩ := h B2 F2 rho2 om2 z2 σ2 H2 s p R ho hk
  refine ⟨fun i hi => ⟨xs, hq, by rw [← r.length]; exact hi⟩, fun i d hd => ?_⟩
  obtain ⟨v, hv, rv⟩ := r.get hd
  refine ⟨⟨xs, v, hq, hv⟩, fun x H3 ⟨e, y⟩ => ⟨e, F2, Same.refl _, fun _ _ _ _ n => n, R, ?_⟩⟩
  have q := y xs hq
  rw [hv] at q
  cases q
  exact rv
theorem it_ok {it : It} {z : Z} {d : D} (h : it.ok z = true) (hc : it.chk = some d) : ∃ b, cont d z = some (b, it.items) := by
  unfold It.ok at h
  rw [hc] at h
  dsimp only at h
  split at h
  · assumption
  · cases h
/-- the five ways to walk -/
theorem seq_at {K : Kx} {B : Bs} {F : Hp} {rho : List Addr} {om : Nat → Option Addr} {z z' : Z} {σ : L2.St} {H : Hp} {x : D} {v : V} {it : It} {R : L2.It → Hp → Prop} (Rr : Rl K B F rho om z σ H) (r : Rv K F rho om x v)
    (e : I.seqF x z = some (it, z')) (k : ∀ J, z' = z → ItOk K F rho om it J → R J H) : ∃ a, v = .ref a ∧ (((∃ xs, SqL K H a xs) ∧ R (Itl K a) H) ∨ ((∃ xs, SqT K H a xs) ∧ R (Itt K a) H)) := by
  cases r with
  | pure r =>
    cases r with
    | @lst a xs ds h q =>
      cases e
      exact ⟨a, rfl, .inl ⟨⟨xs, SqL.of (Rr.rh.fro _ _ h)⟩, k _ rfl (itl_ok fun B2 F2 rho2 om2 z2 σ2 H2 s p R2 _ _ => ⟨xs, SqL.of (R2.rh.fro _ _ (s _ _ h)), q.mono s p⟩)⟩⟩
    | @scr a xs ds h q =>
      cases e
      exact ⟨a, rfl, .inl ⟨⟨xs, Rr.rh.fro.seq h⟩, k _ rfl (itl_ok fun B2 F2 rho2 om2 z2 σ2 H2 s p R2 _ _ => ⟨xs, R2.rh.fro.seq (s.seq h), q.mono s p⟩)⟩⟩
    | @tup a xs ds h q =>
      cases e
      exact ⟨a, rfl, .inr ⟨⟨xs, SqT.of (Rr.rh.fro _ _ h)⟩, k _ rfl (itt_ok fun B2 F2 rho2 om2 z2 σ2 H2 s p R2 _ _ => ⟨xs, SqT.of (R2.rh.fro _ _ (s _ _ h)), q.mono s p⟩)⟩⟩
    | @kt a xs ds h q =>
      cases e
      exact ⟨a, rfl, .inr ⟨⟨xs, Same.sqt Rr.rh.fro h⟩, k _ rfl (itt_ok fun B2 F2 rho2 om2 z2 σ2 H2 s p R2 _ _ => ⟨xs, Same.sqt R2.rh.fro (Same.sqt s h), q.mono s p⟩)⟩⟩
    | @ref n a h =>
      unfold I.seqF at e
      dsimp only at e
      split at e
      · rename_i b xs hc
        cases e
        obtain ⟨a', ys, hv, q, h9⟩ := cont_ok Rr (.pure (.ref h)) hc
        cases hv
        rcases h9 with ⟨_, h9⟩ | ⟨hb, _⟩
        · refine ⟨a, rfl, .inl ⟨⟨ys, h9⟩, k _ rfl (itl_ok fun B2 F2 rho2 om2 z2 σ2 H2 s p R2 _ ok => ?_)⟩⟩
          obtain ⟨b2, hc2⟩ := it_ok ok rfl
          obtain ⟨a2, ys2, hv2, q2, h10⟩ := cont_ok R2 (.pure (.ref (pre_get p h))) hc2
          cases hv2
          rcases h10 with ⟨_, h10⟩ | ⟨hb, _⟩
          · exact ⟨ys2, h10, q2⟩
          · rw [hb] at hc2
            exact (cont_tup hc2).elim (fun z => nomatch z) fun z => nomatch z
        · rw [hb] at hc
          exact (cont_tup hc).elim (fun z => nomatch z) fun z => nomatch z
      · cases e
    | _ => cases e
  | @own i a h =>
    unfold I.seqF at e
    dsimp only at e
    split at e
    · rename_i b xs hc
      cases e
      obtain ⟨a', ys, hv, q, h9⟩ := cont_ok Rr (.own h) hc
      cases hv
      rcases h9 with ⟨_, h9⟩ | ⟨hb, _⟩
      · refine ⟨a, rfl, .inl ⟨⟨ys, h9⟩, k _ rfl (itl_ok fun B2 F2 rho2 om2 z2 σ2 H2 s p R2 ho ok => ?_)⟩⟩
        obtain ⟨b2, hc2⟩ := it_ok ok rfl
        have ho : om2 = om := by
          rcases ho with ho | ho
          · exact ho
          · exact absurd rfl (ho i)
        obtain ⟨a2, ys2, hv2, q2, h10⟩ := cont_ok R2 (.own (by rw [ho]; exact h)) hc2
        cases hv2
        rcases h10 with ⟨_, h10⟩ | ⟨hb, _⟩
        · exact ⟨ys2, h10, q2⟩
        · rw [hb] at hc2
          exact (cont_tup hc2).elim (fun z => nomatch z) fun z => nomatch z
      · rw [hb] at hc
        exact (cont_tup hc).elim (fun z => nomatch z) fun z => nomatch z
    · cases e
theorem mi_seqC {l : Expr} {m : M D} (hl : PE X l (Te (kx X Tb) m)) : PI X tg l (Ti (kx X Tb) (I.seqC m)) := by
  refine pi_imp (pi_seq hl) fun σ H R ⟨B, F, rho, om, z, Rr, it, z', e, k⟩ => ?_
  obtain ⟨x, z1, e1, e2⟩ := bnd_some e
  refine ⟨B, F, rho, om, z, Rr, x, z1, e1, fun F1 rho1 H1 v s1 p1 R1 r1 => ?_⟩
  exact seq_at R1 r1 e2 fun J ez ok => k F1 rho1 H1 J s1 p1 (by rw [ez]; exact R1) ok
theorem mi_seq {l : Expr} {m : M D} (hl : PE X l (Te (kx X Tb) m)) : PI X tg l (Ti (kx X Tb) (I.seq m)) := by
  refine pi_imp (mi_seqC hl) fun σ H R ⟨B, F, rho, om, z, Rr, it, z', e, k⟩ => ?_
  refine ⟨B, F, rho, om, z, Rr, it, z', ?_, k⟩
  obtain ⟨x, z1, e1, e2⟩ := bnd_some e
  unfold I.seqC bnd
  rw [e1]
  show I.seqF x z1 = some (it, z')
  cases x <;> first | exact e2 | cases e2
theorem seq_noOwn {m : M D} : noOwn (I.seq m) := by
  intro z it z' j h
  obtain ⟨x, z1, e1, e2⟩ := bnd_some h
  intro q
  cases x <;> try (cases e2; done)
  · cases e2; cases q
  · cases e2; cases q
  · cases e2; cases q
  · cases e2; cases q
  · dsimp only at e2
    split at e2
    · cases e2; cases q
    · cases e2
theorem irng_get {lo : Int} {n i : Nat} {d : D} (h : (I.irng lo n)[i]? = some d) : i < n ∧ d = .int (lo + (i : Nat)) := by
  unfold I.irng at h
  rw [List.getElem?_map] at h
  cases q : (List.range n)[i]? with
  | none => rw [q] at h; cases h
  | some j =>
    rw [q] at h
    cases h
    obtain ⟨h1, h2⟩ := List.getElem?_eq_some_iff.mp q
    rw [List.getElem_range] at h2
    subst h2
    exact ⟨by simpa using h1, rfl⟩
theorem irng_len {lo : Int} {n : Nat} : (I.irng lo n).length = n := by
  unfold I.irng
  rw [List.length_map, List.length_range]
theorem itr_ok {K : Kx} {F : Hp} {rho : List Addr} {om : Nat → Option Addr} {lo : Int} {n : Nat} : ItOk K F rho om ⟨I.irng lo n, none⟩ (Itr lo n) := by
  intro B2 F2 rho2 om2 z2 σ2 H2 s p R ho hk
  refine ⟨fun i hi => ?_, fun i d hd => ?_⟩
  · rw [irng_len] at hi
    exact hi
  · obtain ⟨h1, rfl⟩ := irng_get hd
    refine ⟨h1, fun x H3 ⟨e, y⟩ => ⟨e, F2, Same.refl _, fun _ _ _ _ n => n, R, ?_⟩⟩
    rw [y]
    exact .int _
theorem mi_rng1 {a : Expr} {m : M D} {p pos : Pos} (hg : Gl X "range") (hm : X.mg "range" = none) (ha : PE X a (Te (kx X Tb) m)) (hs : starEach [a] X.env = [(false, eval a X.env)] := by rfl) (he : starEach [a] X.env = (false, eval a X.env) :: starEach [] X.env := by rfl) : PI X tg (.Call (.Name "range" p) [a] [] pos) (Ti (kx X Tb) (I.rng1 m)) := by
  refine pi_imp (pi_range1 hg hm (pa_cons ha pa_nil he) hs) fun σ H R ⟨B, F, rho, om, z, Rr, it, z', e, k⟩ => ?_
  obtain ⟨x, z1, e1, e2⟩ := bnd_some e
  refine ⟨B, F, rho, om, z, Rr, x, z1, e1, fun F1 rho1 H1 v s1 p1 R1 r1 => ?_⟩
  cases x <;> try (cases e2; done)
  obtain rfl := rv_int r1
  dsimp only at e2
  split at e2
  · rename_i n hn
    cases e2
    exact ⟨_, rfl, hn.1, hn.2, k F1 rho1 H1 _ s1 p1 R1 itr_ok⟩
  · cases e2
theorem rng1_noOwn {m : M D} : noOwn (I.rng1 m) := by
  intro z it z' j h
  obtain ⟨x, z1, e1, e2⟩ := bnd_some h
  intro q
  cases x <;> try (cases e2; done)
  dsimp only at e2
  split at e2
  · cases e2; cases q
  · cases e2
end
end Mi
set_option Elab.async false
set_option linter.all false
set_option maxRecDepth 100000
namespace Mi
open PySem PySem.Spec PyProof.Rows L2
def Post (K : Kx) (B : Bs) (F : Hp) (rho : List Addr) (D : Ends) (z' : Z) : Fl → Prop
  | .nx => ∀ F' rho' om' σ' H', Same F F' → rho <+: rho' → Rl K B F' rho' om' z' σ' H' → D.nx σ' H'
  | .bk => ∀ F' rho' om' σ' H', Same F F' → rho <+: rho' → Rl K B F' rho' om' z' σ' H' → D.bk σ' H'
  | .ct => ∀ F' rho' om' σ' H', Same F F' → rho <+: rho' → Rl K B F' rho' om' z' σ' H' → D.ct σ' H'
  | .rt d => ∀ F' rho' om' σ' H' v, Same F F' → rho <+: rho' → Rl K B F' rho' om' z' σ' H' → Rp K F' rho' d v → D.rt v H'
def GoS (K : Kx) (B : Bs) (F : Hp) (rho : List Addr) (om : Nat → Option Addr) (c : C) (z : Z) (D : Ends) (σ : L2.St) (H : Hp) : Prop :=
  Rl K B F rho om z σ H ∧ ∃ f z', c z = some (f, z') ∧ Post K B F rho D z' f
def Ts (K : Kx) (c : C) : TS := fun D σ H => ∃ B F rho om z, GoS K B F rho om c z D σ H
theorem Post.mono {K : Kx} {B : Bs} {F F1 : Hp} {rho rho1 : List Addr} {D : Ends} {z' : Z} {f : Fl} (s : Same F F1) (p : rho <+: rho1) (h : Post K B F rho D z' f) : Post K B F1 rho1 D z' f := by
  cases f with
  | nx => exact fun F' rho' om' σ' H' s' p' R => h F' rho' om' σ' H' (s.trans s') (p.trans p') R
  | bk => exact fun F' rho' om' σ' H' s' p' R => h F' rho' om' σ' H' (s.trans s') (p.trans p') R
  | ct => exact fun F' rho' om' σ' H' s' p' R => h F' rho' om' σ' H' (s.trans s') (p.trans p') R
  | rt d => exact fun F' rho' om' σ' H' v s' p' R => h F' rho' om' σ' H' v (s.trans s') (p.trans p') R
section
variable {X : Cx} {Tb : Tbs}
theorem mss_nil : PSs X [] (Ts (kx X Tb) C.skip) := by
  refine pss_imp pss_nil fun D σ H ⟨B, F, rho, om, z, R, f, z', e, k⟩ => ?_
  cases e
  exact k F rho om σ H (Same.refl _) (List.prefix_refl _) R
theorem seq_go {K : Kx} {a b : C} {D : Ends} {σ : L2.St} {H : Hp} (h : Ts K (C.seq a b) D σ H) : Ts K a { D with nx := Ts K b D } σ H := by
  obtain ⟨B, F, rho, om, z, R, f, z', e, k⟩ := h
  unfold C.seq at e
  split at e
  · rename_i z1 h1
    refine ⟨B, F, rho, om, z, R, .nx, z1, h1, fun F' rho' om' σ' H' s p R' => ⟨B, F', rho', om', z1, R', f, z', e, k.mono s p⟩⟩
  · rename_i hn
    refine ⟨B, F, rho, om, z, R, f, z', e, ?_⟩
    cases f with
    | nx => exact absurd e (hn z')
    | _ => exact k
theorem mss_cons {st : Stmt} {rest : List Stmt} {a b : C} (h1 : PS X st (Ts (kx X Tb) a)) (h2 : PSs X rest (Ts (kx X Tb) b)) : PSs X (st :: rest) (Ts (kx X Tb) (C.seq a b)) := pss_imp (pss_cons h1 h2) fun D σ H h => seq_go h
theorem mss_one {st : Stmt} {a : C} (h1 : PS X st (Ts (kx X Tb) a)) : PSs X [st] (Ts (kx X Tb) a) := pss_one h1
/-- a slot's list is laid down, ahead of a statement -/
theorem mss_frz {rest : List Stmt} {b : C} (i : Nat) (h : PSs X rest (Ts (kx X Tb) b)) : PSs X rest (Ts (kx X Tb) (C.seq (C.frz i) b)) := by
  refine pss_imp h fun D σ H ⟨B, F, rho, om, z, R, f, z', e, k⟩ => ?_
  unfold C.seq C.frz at e
  cases hs : z.s[i]? with
  | none =>
    rw [hs] at e
    cases e
  | some x =>
    cases x with
    | own d =>
      cases d with
      | lst ds =>
        rw [hs] at e
        have e : b ⟨z.s.set i (.val (.lst ds)), z.h⟩ = some (f, z') := e
        obtain ⟨a, h1, h2, xs, h3, h4⟩ := R.sl i _ hs
        have f0 := R.freshOwn h1
        have R1 : Rl (kx X Tb) B F rho (omSet om i none) ⟨z.s.set i .no, z.h⟩ σ H := R.forget i
        obtain ⟨R2, s2⟩ := R1.lay f0 h3
        have hσ : σ.set i (some (V.ref a)) = σ := by
          refine List.ext_getElem? fun j => ?_
          by_cases c : j = i
          · subst c
            rw [h2, List.getElem?_set_self (List.getElem?_eq_some_iff.mp h2).1]
          · rw [List.getElem?_set_ne (Ne.symm c)]
        have R3 := R2.setVal i (.lst upd_same (h4.mono s2 (List.prefix_refl _)))
        rw [hσ] at R3
        have ez : (⟨(z.s.set i Sl.no).set i (.val (.lst ds)), z.h⟩ : Z) = ⟨z.s.set i (.val (.lst ds)), z.h⟩ := by rw [List.set_set]
        have R3 : Rl (kx X Tb) B _ rho (omSet (omSet om i none) i none) ⟨(z.s.set i Sl.no).set i (.val (.lst ds)), z.h⟩ σ H := R3
        rw [ez] at R3
        exact ⟨B, _, rho, _, _, R3, f, z', e, k.mono s2 (List.prefix_refl _)⟩
      | _ =>
        rw [hs] at e
        cases e
    | _ =>
      rw [hs] at e
      cases e
theorem ms_cnt {pos : Pos} : PS X (.Continue pos) (Ts (kx X Tb) C.cnt) := by
  refine ps_imp ps_continue fun D σ H ⟨B, F, rho, om, z, R, f, z', e, k⟩ => ?_
  cases e
  exact k F rho om σ H (Same.refl _) (List.prefix_refl _) R
theorem ms_expr {e : Expr} {m : M D} {pos : Pos} (he : PE X e (Te (kx X Tb) m)) (hs : swapsWith e none pos.line X.env = pure false := by rfl) : PS X (.Expr e pos) (Ts (kx X Tb) (C.drop m)) := by
  refine ps_imp (ps_expr he hs) fun D σ H ⟨B, F, rho, om, z, R, f, z', e, k⟩ => ?_
  obtain ⟨x, z1, e1, e2⟩ := bnd_some e
  cases e2
  exact ⟨B, F, rho, om, z, R, x, _, e1, fun F1 rho1 H1 v s p R1 r1 => k F1 rho1 om σ H1 s p R1⟩
theorem ms_ret {e : Expr} {m : M D} {pos : Pos} (he : PE X e (Te (kx X Tb) m)) : PS X (.Return (some e) pos) (Ts (kx X Tb) (C.ret m)) := by
  refine ps_imp (ps_ret he) fun D σ H ⟨B, F, rho, om, z, R, f, z', e, k⟩ => ?_
  obtain ⟨x, z1, e1, e2⟩ := bnd_some e
  refine ⟨B, F, rho, om, z, R, x, z1, e1, fun F1 rho1 H1 v s p R1 r1 => ?_⟩
  cases r1 with
  | pure r1 =>
    have e2 : some (Fl.rt x, z1) = some (f, z') := by
      cases x <;> first | exact e2 | (cases r1; done)
    cases e2
    exact k F1 rho1 om σ H1 v s p R1 r1
  | @own i a h =>
    try dsimp only at e2
    split at e2
    · rename_i ds hs
      cases e2
      obtain ⟨a', h1, h2, h5⟩ := R1.sl i _ hs
      rw [h] at h1
      cases h1
      obtain ⟨xs, h3, h4⟩ := h5
      have f0 := R1.freshOwn h
      obtain ⟨R2, s2⟩ := (R1.forget i).lay f0 h3
      have r3 : Rp (kx X Tb) (upd F1 a (.lst xs)) rho1 (.lst ds) (.ref a) := .lst upd_same (h4.mono s2 (List.prefix_refl _))
      exact k _ rho1 _ σ H1 _ (s.trans s2) p R2 r3
    · cases e2
theorem ms_if {c : Expr} {a b : List Stmt} {t : M Bool} {ca cb : C} {pos : Pos} (hc : PT X c (Tt (kx X Tb) t)) (ha : PSs X a (Ts (kx X Tb) ca)) (hb : PSs X b (Ts (kx X Tb) cb)) : PS X (.If c a b pos) (Ts (kx X Tb) (C.ite t ca cb)) := by
  refine ps_imp (ps_if hc ha hb) fun D σ H ⟨B, F, rho, om, z, R, f, z', e, k⟩ => ?_
  obtain ⟨x, z1, e1, e2⟩ := bnd_some e
  refine ⟨B, F, rho, om, z, R, x, z1, e1, fun F1 rho1 H1 v s p R1 r1 => ?_⟩
  have r1 : v = x := r1
  subst r1
  cases v with
  | true => exact ⟨B, F1, rho1, om, z1, R1, f, z', e2, k.mono s p⟩
  | false => exact ⟨B, F1, rho1, om, z1, R1, f, z', e2, k.mono s p⟩
/-- name = e -/
theorem ms_set {i : Nat} {x : Str} {e : Expr} {m : M D} {pos pos' : Pos} (hN : X.N.Nodup) (he : PE X e (Te (kx X Tb) m)) (hi : X.N[i]? = some x := by rfl) (hx : Loc X.env.scope x := by first | exact Or.inl rfl | exact Or.inr rfl)
    (hs : swapsWith e (some (.Name x pos')) pos.line X.env = pure false := by rfl) (hf : X.fn x = true ∨ X.env.scope.names.lookup x = some .local := by first | exact .inl rfl | exact .inr rfl) : PS X (.Assign [.Name x pos'] e pos) (Ts (kx X Tb) (C.set i m)) := by
  refine ps_imp (ps_set hN hi hx he hs hf) fun D σ H ⟨B, F, rho, om, z, R, f, z', e, k⟩ => ?_
  obtain ⟨d, z1, e1, e2⟩ := bnd_some e
  refine ⟨B, F, rho, om, z, R, d, z1, e1, fun F1 rho1 H1 v s p R1 r1 => ?_⟩
  try dsimp only at e2
  split at e2
  · rename_i hp
    cases e2
    exact k F1 rho1 _ _ H1 s p (R1.setVal i (r1.of_pure hp))
  · cases e2
/-- name = a new list that the name owns -/
theorem own_go {K : Kx} {i : Nat} {m : M (List D)} {te : TE} (h : ∀ σ H Q, Tf K m σ H Q → te σ H Q) : ∀ D σ H, Ts K (C.own i m) D σ H → tAsg te (gName i) D σ H := by
  rintro D σ H ⟨B, F, rho, om, z, R, f, z', e, k⟩
  obtain ⟨ds, z1, e1, e2⟩ := bnd_some e
  refine h σ H _ ⟨B, F, rho, om, z, R, ds, z1, e1, fun F1 rho1 H1 v s p R1 ⟨a, xs, hv, ha, f0, r1⟩ => ?_⟩
  subst hv
  try dsimp only at e2
  split at e2
  · rename_i hl
    cases e2
    exact k F1 rho1 _ _ H1 s p (R1.setOwn i hl f0 ⟨xs, ha, r1⟩)
  · cases e2
theorem ms_own {i : Nat} {x : Str} {e : Expr} {m : M (List D)} {pos pos' : Pos} (hN : X.N.Nodup) (he : PE X e (Tf (kx X Tb) m)) (hi : X.N[i]? = some x := by rfl) (hx : Loc X.env.scope x := by first | exact Or.inl rfl | exact Or.inr rfl)
    (hs : swapsWith e (some (.Name x pos')) pos.line X.env = pure false := by rfl) (hf : X.fn x = true ∨ X.env.scope.names.lookup x = some .local := by first | exact .inl rfl | exact .inr rfl) : PS X (.Assign [.Name x pos'] e pos) (Ts (kx X Tb) (C.own i m)) :=
  ps_imp (ps_set hN hi hx he hs hf) (own_go fun _ _ _ h => h)
/-- a target = e -/
theorem asg_go {K : Kx} {g : G} {m : M D} {te : TE} (h : ∀ σ H Q, Te K m σ H Q → te σ H Q) : ∀ D σ H, Ts K (C.asg g m) D σ H → tAsg te (Tg K g) D σ H := by
  rintro D σ H ⟨B, F, rho, om, z, R, f, z', e, k⟩
  obtain ⟨d, z1, e1, e2⟩ := bnd_some e
  refine h σ H _ ⟨B, F, rho, om, z, R, d, z1, e1, fun F1 rho1 H1 v s p R1 r1 => ?_⟩
  try dsimp only at e2
  split at e2
  · rename_i hp
    split at e2
    · rename_i z2 hg
      cases e2
      exact ⟨B, F1, rho1, om, z1, d, R1, r1.of_pure hp, z', hg, fun om' σ' _ _ _ R2 => k F1 rho1 om' σ' H1 s p R2⟩
    · cases e2
  · cases e2
theorem ms_asg {tg e : Expr} {m : M D} {g : G} {pos : Pos} (he : PE X e (Te (kx X Tb) m)) (hg : PG X tg (Tg (kx X Tb) g)) (hs : swapsWithSole [tg] e pos.line X.env = pure false := by rfl) (hw : swappedStores [tg] e X.env = pure none := by rfl)
    (h1 : (assignEach [tg] X.env).map (·.2) = [assign tg X.env] := by rfl) : PS X (.Assign [tg] e pos) (Ts (kx X Tb) (C.asg g m)) := ps_imp (ps_asg he hg hs hw h1) (asg_go fun _ _ _ h => h)
/-- a[i] = e -/
theorem ms_setIx {a i e : Expr} {ma mi me : M D} {p pos : Pos} (he : PE X e (Te (kx X Tb) me)) (ha : PE X a (Te (kx X Tb) ma)) (hi : PE X i (Te (kx X Tb) mi)) (hs : swapsWithSole [.Subscript a i p] e pos.line X.env = pure false := by rfl) (hw : swappedStores [.Subscript a i p] e X.env = pure none := by rfl)
    (h1 : (assignEach [.Subscript a i p] X.env).map (·.2) = [assign (.Subscript a i p) X.env] := by rfl) (hsub : ∀ v, assign (.Subscript a i p) X.env v = (do
      let ov ← holding [v] (eval a X.env)
      let iv ← holding [v, ov] (eval i X.env)
      standAt p
      holding [v, ov, iv] (setItem ov iv v)
      release [v, ov, iv] []) := by intro _; rfl) : PS X (.Assign [.Subscript a i p] e pos) (Ts (kx X Tb) (C.setIx ma mi me)) := by
  refine ps_imp (ps_asg he (pg_sub ha hi set_list hsub) hs hw h1) fun D σ H ⟨B, F, rho, om, z, R, f, z', e, k⟩ => ?_
  obtain ⟨d, z1, e1, e2⟩ := bnd_some e
  refine ⟨B, F, rho, om, z, R, d, z1, e1, fun F1 rho1 H1 v s1 p1 R1 r1 => ?_⟩
  obtain ⟨x, z2, e3, e4⟩ := bnd_some e2
  refine ⟨B, F1, rho1, om, z1, R1, x, z2, e3, fun F2 rho2 H2 w s2 p2 R2 r2 => ?_⟩
  obtain ⟨y, z3, e5, e6⟩ := bnd_some e4
  refine ⟨B, F2, rho2, om, z2, R2, y, z3, e5, fun F3 rho3 H3 u s3 p3 R3 r3 => ?_⟩
  try dsimp only at e6
  split at e6
  · rename_i hp
    have rd : Rp (kx X Tb) F3 rho3 d v := ((r1.of_pure hp).mono s2 p2).mono s3 p3
    have r2' := r2.mono s3 p3
    have fin : ∀ {ds ds' : List Mi.D} {xs : List V} {j : Int}, U.setAt ds j d = some ds' → Rps (kx X Tb) F3 rho3 ds xs → ∃ jj, ixN xs.length j = some jj ∧ Rps (kx X Tb) F3 rho3 ds' (xs.set jj v) := fun {ds ds' xs j} h q => by
      unfold U.setAt at h
      cases hj : ixN ds.length j with
      | none => rw [hj] at h; cases h
      | some jj =>
        rw [hj] at h
        cases h
        exact ⟨jj, by rw [← q.length]; exact hj, q.set rd jj⟩
    split at e6
    · rename_i kk j
      obtain rfl := rv_int r3
      cases r2' with
      | pure r2' => cases r2'
      | own h =>
        split at e6
        · rename_i ds hs
          split at e6
          · rename_i ds' hd
            cases e6
            obtain ⟨a', h1, h5, h2⟩ := R3.sl _ _ hs
            rw [h] at h1
            cases h1
            obtain ⟨ys, h3, h4⟩ := h2
            obtain ⟨jj, hj, q⟩ := fin hd h4
            exact ⟨_, ys, j, jj, rfl, rfl, h3, hj, k F3 rho3 _ _ _ ((s1.trans s2).trans s3) ((p1.trans p2).trans p3) (R3.mutOwn h hs ⟨_, upd_same, q⟩)⟩
          · cases e6
        · cases e6
    · rename_i n j
      obtain rfl := rv_int r3
      cases r2' with
      | pure r2' =>
        cases r2' with
        | ref h =>
          split at e6
          · rename_i ds hs
            split at e6
            · rename_i ds' hd
              cases e6
              obtain ⟨ys, h3, h4⟩ := R3.rh.obs n _ _ hs h
              obtain ⟨jj, hj, q⟩ := fin hd h4
              exact ⟨_, ys, j, jj, rfl, rfl, h3, hj, k F3 rho3 _ _ _ ((s1.trans s2).trans s3) ((p1.trans p2).trans p3) (R3.mutRef h ⟨_, upd_same, q⟩)⟩
            · cases e6
          · cases e6
    · cases e6
  · cases e6
theorem ms_for {tg iter : Expr} {body : List Stmt} {mi : M It} {g : G} {b : C} {pos : Pos} (hp : PassesOwn (model X.prog X.w) X.A X.env X.xe) (hc : X.calm = true) (hi : PI X tg iter (Ti (kx X Tb) mi)) (hn : noOwn mi) (hg : PG X tg (Tg (kx X Tb) g)) (hb : PSs X body (Ts (kx X Tb) b))
    (hs : ∀ x, foldedSetIterable iter X.env x = pure x := by intro _; rfl) : PS X (.For tg iter body [] pos) (Ts (kx X Tb) (C.for_ mi g b)) := by
  refine ps_imp (ps_for hp hc hi hg hb hs) fun D σ H ⟨B, F, rho, om, z, R, f, z', e, k⟩ => ?_
  obtain ⟨it, z1, e1, e2⟩ := bnd_some e
  refine ⟨B, F, rho, om, z, R, it, z1, e1, fun F1 rho1 H1 J s1 p1 R1 ok => ?_⟩
  have hno := fun j => hn z it z1 j e1
  have k1 := k.mono s1 p1
  refine ⟨fun i m σ H => ∃ F2 rho2 om2 z2, Same F1 F2 ∧ rho1 <+: rho2 ∧ Rl (kx X Tb) B F2 rho2 om2 z2 σ H ∧ m = it.items.length - i ∧ i ≤ it.items.length ∧ C.loop it g b (it.items.drop i) z2 = some (f, z'),
    ⟨_, F1, rho1, om, z1, Same.refl _, List.prefix_refl _, R1, rfl, Nat.zero_le _, e2⟩, ?_⟩
  rintro i m σ2 H2 ⟨F2, rho2, om2, z2, s2, p2, R2, rfl, hi, hl⟩
  cases hd : it.items.drop i with
  | nil =>
    rw [hd] at hl
    have hl : (if it.ok z2 = true then some (Fl.nx, z2) else none) = some (f, z') := hl
    split at hl
    · rename_i hok
      cases hl
      have hi2 : it.items.length ≤ i := by
        have := List.drop_eq_nil_iff.mp hd
        exact this
      obtain ⟨o1, o2⟩ := ok B F2 rho2 om2 _ σ2 H2 s2 p2 R2 (.inr hno) hok
      exact .inl ⟨o1 i hi2, k1 F2 rho2 om2 σ2 H2 s2 p2 R2⟩
    · cases hl
  | cons d ds =>
    rw [hd] at hl
    have hds : it.items.drop (i + 1) = ds := by rw [← List.drop_drop, hd]; rfl
    have hget : it.items[i]? = some d := by
      have := List.getElem?_drop (xs := it.items) (i := i) (j := 0)
      rw [hd] at this
      simpa using this.symm
    have hlt : i < it.items.length := (List.getElem?_eq_some_iff.mp hget).1
    unfold C.loop at hl
    split at hl
    · rename_i hok
      obtain ⟨o1, o2⟩ := ok B F2 rho2 om2 z2 σ2 H2 s2 p2 R2 (.inr hno) hok
      obtain ⟨g1, y1⟩ := o2 i d hget
      split at hl
      · cases hl
      · rename_i z3 hg3
        cases hb4 : b z3 with
        | none =>
          rw [hb4] at hl
          cases hl
        | some q4 =>
          obtain ⟨f4, z4⟩ := q4
          rw [hb4] at hl
          refine .inr ⟨g1, fun σ' H' => ∃ F' rho' om', Same F2 F' ∧ rho2 <+: rho' ∧ Rl (kx X Tb) B F' rho' om' z4 σ' H' ∧ C.loop it g b ds z4 = some (f, z'), ?_, fun x H3 hy => ?_⟩
          · rintro σ' H' ⟨F', rho', om', s', p', R', hl'⟩
            exact ⟨it.items.length - (i + 1), by omega, F', rho', om', z4, s2.trans s', p2.trans p', R', rfl, hlt, by rw [hds]; exact hl'⟩
          · obtain ⟨rfl, F3, s23, _, R23, rx⟩ := y1 x H3 hy
            refine ⟨B, F3, rho2, om2, z2, d, R23, rx, z3, hg3, fun om3 σ3 _ _ _ R3 => ⟨B, F3, rho2, om3, z3, R3, f4, z4, hb4, ?_⟩⟩
            cases f4 with
            | nx => exact fun F' rho' om' σ' H' s' p' R' => ⟨F', rho', om', s23.trans s', p', R', hl⟩
            | ct => exact fun F' rho' om' σ' H' s' p' R' => ⟨F', rho', om', s23.trans s', p', R', hl⟩
            | bk =>
              cases hl
              exact fun F' rho' om' σ' H' s' p' R' => k1 F' rho' om' σ' H' (s2.trans (s23.trans s')) (p2.trans p') R'
            | rt d4 =>
              cases hl
              exact fun F' rho' om' σ' H' v s' p' R' r => k1 F' rho' om' σ' H' v (s2.trans (s23.trans s')) (p2.trans p') R' r
    · cases hl
/-- so many turns -/
def whlF (t : M Bool) (b : C) : Nat → C
  | 0, _ => none
  | n + 1, z => match t z with
    | none => none
    | some (false, z1) => some (.nx, z1)
    | some (true, z1) => match b z1 with
      | none => none
      | some (.nx, z2) => whlF t b n z2
      | some (.ct, z2) => whlF t b n z2
      | some (.bk, z2) => some (.nx, z2)
      | some (.rt d, z2) => some (.rt d, z2)
theorem whl_F {t : M Bool} {b : C} : ∀ z r, C.whl t b z = some r → ∃ n, whlF t b n z = some r := by
  refine C.whl.partial_correctness t b _ fun w ih z r h => ?_
  split at h
  · cases h
  · rename_i z1 ht
    refine ⟨1, ?_⟩
    unfold whlF
    rw [ht]
    exact h
  · rename_i z1 ht
    split at h
    · cases h
    · rename_i z2 hb
      obtain ⟨n, hn⟩ := ih _ _ h
      refine ⟨n + 1, ?_⟩
      unfold whlF
      rw [ht]
      dsimp only
      rw [hb]
      exact hn
    · rename_i z2 hb
      obtain ⟨n, hn⟩ := ih _ _ h
      refine ⟨n + 1, ?_⟩
      unfold whlF
      rw [ht]
      dsimp only
      rw [hb]
      exact hn
    · rename_i z2 hb
      refine ⟨1, ?_⟩
      unfold whlF
      rw [ht]
      dsimp only
      rw [hb]
      exact h
    · rename_i d z2 hb
      refine ⟨1, ?_⟩
      unfold whlF
      rw [ht]
      dsimp only
      rw [hb]
      exact h
theorem ms_whl {c : Expr} {body : List Stmt} {t : M Bool} {b : C} {pos : Pos} (hp : PassesOwn (model X.prog X.w) X.A X.env X.xe) (hc : PT X c (Tt (kx X Tb) t)) (hb : PSs X body (Ts (kx X Tb) b)) : PS X (.While c body [] pos) (Ts (kx X Tb) (C.whl t b)) := by
  refine ps_imp (ps_while hp hc hb) fun D σ H ⟨B, F, rho, om, z, R, f, z', e, k⟩ => ?_
  obtain ⟨n, hn⟩ := whl_F _ _ e
  refine ⟨fun m σ H => ∃ F2 rho2 om2 z2, Same F F2 ∧ rho <+: rho2 ∧ Rl (kx X Tb) B F2 rho2 om2 z2 σ H ∧ whlF t b m z2 = some (f, z'), ⟨n, F, rho, om, z, Same.refl _, List.prefix_refl _, R, hn⟩, ?_⟩
  rintro m σ2 H2 ⟨F2, rho2, om2, z2, s2, p2, R2, hl⟩
  cases m with
  | zero => cases hl
  | succ m =>
    unfold whlF at hl
    cases ht : t z2 with
    | none =>
      rw [ht] at hl
      cases hl
    | some q =>
      obtain ⟨k3, z3⟩ := q
      rw [ht] at hl
      refine ⟨B, F2, rho2, om2, z2, R2, k3, z3, ht, fun F3 rho3 H3 y s3 p3 R3 r3 => ?_⟩
      have r3 : y = k3 := r3
      subst r3
      cases y with
      | false =>
        cases hl
        exact k F3 rho3 _ _ _ (s2.trans s3) (p2.trans p3) R3
      | true =>
        dsimp only at hl
        cases hb4 : b z3 with
        | none =>
          rw [hb4] at hl
          cases hl
        | some q4 =>
          obtain ⟨f4, z4⟩ := q4
          rw [hb4] at hl
          refine ⟨fun σ' H' => ∃ F' rho' om', Same F3 F' ∧ rho3 <+: rho' ∧ Rl (kx X Tb) B F' rho' om' z4 σ' H' ∧ whlF t b m z4 = some (f, z'), ?_, B, F3, rho3, om2, z3, R3, f4, z4, hb4, ?_⟩
          · rintro σ' H' ⟨F', rho', om', s', p', R', hl'⟩
            exact ⟨m, Nat.lt_succ_self m, F', rho', om', z4, (s2.trans s3).trans s', (p2.trans p3).trans p', R', hl'⟩
          · cases f4 with
            | nx => exact fun F' rho' om' σ' H' s' p' R' => ⟨F', rho', om', s', p', R', hl⟩
            | ct => exact fun F' rho' om' σ' H' s' p' R' => ⟨F', rho', om', s', p', R', hl⟩
            | bk =>
              cases hl
              exact fun F' rho' om' σ' H' s' p' R' => k F' rho' om' σ' H' ((s2.trans s3).trans s') ((p2.trans p3).trans p') R'
            | rt d4 =>
              cases hl
              exact fun F' rho' om' σ' H' v s' p' R' r => k F' rho' om' σ' H' v ((s2.trans s3).trans s') ((p2.trans p3).trans p') R' r
end
end Mi
set_option Elab.async false
set_option linter.all false
set_option maxRecDepth 100000
namespace Mi
open PySem PySem.Spec PyProof.Rows L2
section
variable {K : Kx} {B : Bs} {F F' : Hp} {rho rho' : List Addr} {om om' : Nat → Option Addr} {z z' : Z} {σ σ' : L2.St} {H H' : Hp} {a p : Addr} {d : D} {v : V} {o : HO}
/-- an object of nobody's is changed -/
theorem Rl.mutFresh (R : Rl K B F rho om z σ H) (f : Fresh K B F rho om H p) (hn : NT o := by exact fun _ e => nomatch e) : Rl K B F rho om z σ (upd H p o) ∧ Fresh K B F rho om (upd H p o) p := by
  have nr : ∀ (n : Nat) a, rho[n]? = some a → a ≠ p := fun n a e q => f.r n (by rw [← q]; exact e)
  have no : ∀ (i : Nat) a, om i = some a → a ≠ p := fun i a e q => f.o i (by rw [← q]; exact e)
  refine ⟨⟨R.rh.mono1 (fun _ _ e => e) (Same.upd_out R.rh.fro f.f) (fun n a e => upd_ne (nr n a e)) R.rh.nf (R.rh.tb.mono (fun _ _ e => e) (fun q hq => upd_ne (f.k q hq)) R.rh.tb.nf), R.len, fun i x e => (R.sl i x e).mono (fun _ _ e => e) (List.prefix_refl _) (fun a e => upd_ne (no i a e)) rfl, R.oj, R.orr, R.off,
    fun i a e => by rw [upd_ne (no i a e)]; exact R.oth i a e, fun a u e m => ?_, R.exf, R.exr, R.nF, R.nr, R.no, R.ow, R.to, R.mt⟩, ⟨f.f, f.r, f.o, f.b, ⟨_, upd_same, hn⟩, f.k⟩⟩
  have c : a ≠ p := fun c => by
    subst c
    rcases f.b with h | h
    · exact m h
    · rw [h] at e
      cases e
  rw [upd_ne c]
  exact R.frm a u e m
theorem Rl.wipe1 (R : Rl K B F rho om z σ H) {i : Nat} (h : om i = none) : Rl K B F rho om ⟨z.s.set i .no, z.h⟩ (σ.set i none) H := by
  refine ⟨R.rh, by simp only [List.length_set]; exact R.len, fun j x e => ?_, R.oj, R.orr, R.off, R.oth, R.frm, R.exf, R.exr, R.nF, R.nr, R.no, fun j a e => ?_, R.to, R.mt⟩
  · have e : (z.s.set i .no)[j]? = some x := e
    by_cases c : j = i
    · subst c
      have hl : j < z.s.length := by
        have := (List.getElem?_eq_some_iff.mp e).1
        simpa using this
      rw [List.getElem?_set_self hl] at e
      cases e
      trivial
    · rw [List.getElem?_set_ne (Ne.symm c)] at e
      rw [List.getElem?_set_ne (Ne.symm c)]
      exact R.sl j x e
  · have c : ¬ j = i := fun c => by
      subst c
      rw [h] at e
      cases e
    obtain ⟨d', q⟩ := R.ow j a e
    exact ⟨d', by rw [← q]; exact List.getElem?_set_ne (Ne.symm c)⟩
theorem Rl.wipe (R : Rl K B F rho om z σ H) : ∀ {vs : List Nat}, (∀ v ∈ vs, om v = none) → Rl K B F rho om ⟨N.wipe z.s vs, z.h⟩ (L2.wipe σ vs) H
  | [], _ => R
  | v :: vs, h => (Rl.wipe R (vs := vs) fun w hw => h w (List.mem_cons_of_mem _ hw)).wipe1 (h v List.mem_cons_self)
end
theorem wipe_eq {σ σ2 : L2.St} {vs : List Nat} (hl : σ2.length = σ.length) (h : ∀ j, ¬ j ∈ vs → σ2[j]? = σ[j]?) : L2.wipe σ2 vs = L2.wipe σ vs := by
  have inn : ∀ {τ : L2.St} {vs : List Nat} {j : Nat}, j ∈ vs → j < τ.length → (L2.wipe τ vs)[j]? = some none := by
    intro τ vs
    induction vs with
    | nil => intro j h; cases h
    | cons v vs ih =>
      intro j h hj
      unfold L2.wipe
      by_cases c : v = j
      · subst c
        exact List.getElem?_set_self (by rw [wipe_length]; exact hj)
      · rw [List.getElem?_set_ne c]
        rcases List.mem_cons.mp h with q | q
        · exact absurd q.symm c
        · exact ih q hj
  refine List.ext_getElem? fun j => ?_
  by_cases c : j ∈ vs
  · by_cases hj : j < σ.length
    · rw [inn c hj, inn c (by rw [hl]; exact hj)]
    · rw [List.getElem?_eq_none (by rw [wipe_length]; omega), List.getElem?_eq_none (by rw [wipe_length]; omega)]
  · rw [wipe_out c, wipe_out c]
    exact h j c
theorem rest_out {s0 s : List Sl} : ∀ {vs : List Nat} {j : Nat}, ¬ j ∈ vs → (N.rest s0 s vs)[j]? = s[j]?
  | [], _, _ => rfl
  | v :: vs, j, h => by
    unfold N.rest
    have ih := rest_out (s0 := s0) (s := s) (vs := vs) (j := j) fun q => h (List.mem_cons_of_mem _ q)
    cases s0[v]? with
    | none => exact ih
    | some x =>
      have c : v ≠ j := fun c => h (by rw [c]; exact List.mem_cons_self)
      dsimp only
      rw [List.getElem?_set_ne c]
      exact ih
theorem rest_len {s0 s : List Sl} : ∀ {vs : List Nat}, (N.rest s0 s vs).length = s.length
  | [] => rfl
  | v :: vs => by
    unfold N.rest
    cases s0[v]? with
    | none => exact rest_len
    | some x =>
      dsimp only
      rw [List.length_set]
      exact rest_len
theorem rest_in {s0 s : List Sl} (hl : s0.length = s.length) : ∀ {vs : List Nat} {j : Nat}, j ∈ vs → (N.rest s0 s vs)[j]? = s0[j]?
  | [], _, h => by cases h
  | v :: vs, j, h => by
    unfold N.rest
    by_cases c : v = j
    · subst c
      cases q : s0[v]? with
      | none =>
        dsimp only
        have h1 : s0.length ≤ v := List.getElem?_eq_none_iff.mp q
        exact List.getElem?_eq_none (by rw [rest_len]; omega)
      | some x =>
        have h1 := (List.getElem?_eq_some_iff.mp q).1
        exact List.getElem?_set_self (by rw [rest_len]; omega)
    · have hj : j ∈ vs := by
        rcases List.mem_cons.mp h with q | q
        · exact absurd q.symm c
        · exact q
      cases q : s0[v]? with
      | none => exact rest_in hl hj
      | some x =>
        dsimp only
        rw [List.getElem?_set_ne c]
        exact rest_in hl hj
section
variable {K : Kx} {B : Bs} {F F' : Hp} {rho rho' : List Addr} {om om' : Nat → Option Addr} {z z' : Z} {σ σ' : L2.St} {H H' : Hp}
/-- behind a comprehension the names are what they were -/
theorem Rl.rest {H1 : Hp} {F1 : Hp} {rho1 : List Addr} {z1 : Z} {vs : List Nat} (R1 : Rl K B F1 rho1 om z1 σ H1) (s : Same F1 F) (p : rho1 <+: rho) (R : Rl K B F rho om z (L2.wipe σ vs) H) (hn : ∀ v ∈ vs, om v = none) : Rl K B F rho om ⟨N.rest z1.s z.s vs, z.h⟩ σ H := by
  have hl : z1.s.length = z.s.length := by rw [R1.len, R.len, wipe_length]
  refine ⟨R.rh, by rw [rest_len, ← hl]; exact R1.len, fun j x e => ?_, R.oj, R.orr, R.off, R.oth, R.frm, R.exf, R.exr, R.nF, R.nr, R.no, fun j a e => ?_, R.to, R.mt⟩
  · have e : (N.rest z1.s z.s vs)[j]? = some x := e
    by_cases c : j ∈ vs
    · rw [rest_in hl c] at e
      have q := R1.sl j x e
      cases x with
      | no => trivial
      | val d =>
        obtain ⟨v, h1, h2⟩ := q
        exact ⟨v, h1, h2.mono s p⟩
      | own d =>
        obtain ⟨a, h1, _⟩ := q
        rw [hn j c] at h1
        cases h1
    · rw [rest_out c] at e
      have q := R.sl j x e
      rw [wipe_out c] at q
      exact q
  · have c : ¬ j ∈ vs := fun c => by
      rw [hn j c] at e
      cases e
    obtain ⟨d', q⟩ := R.ow j a e
    exact ⟨d', by rw [← q]; exact rest_out c⟩
end
theorem szl_line : szl ≤ sizeLine := by decide
theorem lc_go {K : Kx} {mi : M It} {g : G} {vs : List Nat} {tt : M Bool} {te : M D} (hw : ∀ w ∈ g.ws, w ∈ vs) : ∀ σ H Q, Tf K (N.comp mi g vs tt te) σ H Q → tLc (Ti K mi) (Tg K g) (Tt K tt) (Te K te) vs σ H Q := by
  rintro σ H Q ⟨B, F, rho, om, z, R, xs, z', e, k⟩
  obtain ⟨it, z1, e1, e2⟩ := bnd_some e
  refine ⟨B, F, rho, om, z, R, it, z1, e1, fun F1 rho1 H1 J s1 p1 R1 ok D hD => ?_⟩
  try dsimp only at e2
  split at e2
  · rename_i hc
    split at e2
    · cases e2
    · rename_i accF zF hloop
      cases e2
      have hn : ∀ v ∈ vs, om v = none := fun v hv => by
        cases q : om v with
        | none => rfl
        | some a =>
          obtain ⟨d, hd⟩ := R1.ow v a q
          have := List.all_eq_true.mp hc.2 v hv
          rw [hd] at this
          cases this
      obtain ⟨R2, f2⟩ := R1.new (o := .lst []) hD
      refine ⟨fun i m H => ∃ F2 rho2 z2 acc accv, Same F1 F2 ∧ rho1 <+: rho2 ∧ Rl K B F2 rho2 om z2 (L2.wipe σ vs) H ∧ Fresh K B F2 rho2 om H D ∧ H D = some (.lst accv) ∧ Rps K F2 rho2 acc accv ∧ m = it.items.length - i ∧ i ≤ it.items.length ∧ acc.length ≤ i ∧ N.loop it g vs tt te (it.items.drop i) acc z2 = some (xs, zF),
        ⟨_, F1, rho1, _, [], [], Same.refl _, List.prefix_refl _, R2.wipe hn, f2, upd_same, .nil, rfl, Nat.zero_le _, Nat.le_refl _, hloop⟩, ?_⟩
      rintro i m H2 ⟨F2, rho2, z2, acc, accv, s2, p2, R2, f2, hD2, ra, rfl, hi, hal, hl⟩
      cases hd : it.items.drop i with
      | nil =>
        rw [hd] at hl
        have hl : (if it.ok z2 = true then some (acc, z2) else none) = some (xs, zF) := hl
        split at hl
        · rename_i hok
          cases hl
          have hi2 : it.items.length ≤ i := List.drop_eq_nil_iff.mp hd
          obtain ⟨o1, o2⟩ := ok B F2 rho2 om _ _ H2 s2 p2 R2 (.inl rfl) hok
          exact .inl ⟨o1 i hi2, k F2 rho2 H2 _ (s1.trans s2) (p1.trans p2) (R1.rest s2 p2 R2 hn) ⟨D, accv, rfl, hD2, f2, ra⟩⟩
        · cases hl
      | cons d ds =>
        rw [hd] at hl
        have hds : it.items.drop (i + 1) = ds := by rw [← List.drop_drop, hd]; rfl
        have hget : it.items[i]? = some d := by
          have := List.getElem?_drop (xs := it.items) (i := i) (j := 0)
          rw [hd] at this
          simpa using this.symm
        have hlt : i < it.items.length := (List.getElem?_eq_some_iff.mp hget).1
        unfold N.loop at hl
        split at hl
        · rename_i hok
          obtain ⟨o1, o2⟩ := ok B F2 rho2 om z2 _ H2 s2 p2 R2 (.inl rfl) hok
          obtain ⟨g1, y1⟩ := o2 i d hget
          split at hl
          · cases hl
          · rename_i zg hg3
            cases ht : tt zg with
            | none =>
              rw [ht] at hl
              cases hl
            | some q4 =>
              obtain ⟨b4, zt⟩ := q4
              rw [ht] at hl
              refine .inr ⟨g1, fun H' => ∃ F3 rho3 z3 acc3 accv3, Same F2 F3 ∧ rho2 <+: rho3 ∧ Rl K B F3 rho3 om z3 (L2.wipe σ vs) H' ∧ Fresh K B F3 rho3 om H' D ∧ H' D = some (.lst accv3) ∧ Rps K F3 rho3 acc3 accv3 ∧ acc3.length ≤ i + 1 ∧ N.loop it g vs tt te ds acc3 z3 = some (xs, zF), ?_, fun x H3 hy => ?_⟩
              · rintro H' ⟨F3, rho3, z3, acc3, accv3, s3, p3, R3, f3, hD3, ra3, hl3, hll⟩
                exact ⟨it.items.length - (i + 1), by omega, F3, rho3, z3, acc3, accv3, s2.trans s3, p2.trans p3, R3, f3, hD3, ra3, rfl, hlt, hl3, by rw [hds]; exact hll⟩
              · obtain ⟨rfl, F2a, s2a, n2a, R2a, rx⟩ := y1 x H3 hy
                have ra := ra.mono s2a (List.prefix_refl _)
                have f2 : Fresh K B F2a rho2 om _ D := ⟨n2a _ _ hD2 (fun _ e => nomatch e) f2.f, f2.r, f2.o, f2.b, f2.t, f2.k⟩
                refine ⟨B, F2a, rho2, om, z2, d, R2a, rx, zg, hg3, fun om' σ' hw' hl' hom Rg => ?_⟩
                have eom : om' = om := by
                  funext j
                  by_cases c : j ∈ g.ws
                  · rw [hn j (hw j c)]
                    cases q : om' j with
                    | none => rfl
                    | some a =>
                      have := hom j a q
                      rw [hn j (hw j c)] at this
                      cases this
                  · exact (hw' j c).1
                subst eom
                have ew : L2.wipe σ' vs = L2.wipe σ vs := by
                  refine wipe_eq (hl'.trans (wipe_length _ _)) fun j c => ?_
                  rw [(hw' j fun q => c (hw j q)).2, wipe_out c]
                refine ⟨ew, _, F2a, rho2, om', zg, Rg.reb, b4, zt, ht, fun F3 rho3 H3 y s3 p3 R3 r3 => ?_⟩
                have r3 : y = b4 := r3
                subst r3
                obtain ⟨f3, hD3⟩ := f2.through R3 fun i h => h
                rw [hD2] at hD3
                have R3b := Rg.back R3
                cases y with
                | true =>
                  refine iteT ?_
                  dsimp only at hl
                  cases hte : te zt with
                  | none =>
                    rw [hte] at hl
                    cases hl
                  | some q5 =>
                    obtain ⟨x5, z5⟩ := q5
                    rw [hte] at hl
                    dsimp only at hl
                    split at hl
                    · rename_i hp5
                      refine ⟨_, F3, rho3, om', zt, R3b.reb, x5, z5, hte, fun F4 rho4 H4 w s4 p4 R4 r4 => ?_⟩
                      obtain ⟨f4, hD4⟩ := f3.through R4 fun i h => h
                      rw [hD3] at hD4
                      have R4b := R3b.back R4
                      have hzl : accv.length < sizeLine := by
                        rw [← ra.length]
                        exact Nat.lt_of_lt_of_le (Nat.lt_of_le_of_lt hal (Nat.lt_of_lt_of_le hlt hc.1)) szl_line
                      refine ⟨accv, hD4, hzl, ?_⟩
                      obtain ⟨R5, f5⟩ := R4b.mutFresh (o := .lst (accv ++ [w])) f4
                      have R6 := R5.wipe hn
                      rw [ew] at R6
                      exact ⟨F4, rho4, _, acc ++ [x5], accv ++ [w], s2a.trans (s3.trans s4), p3.trans p4, R6, f5, upd_same, ((ra.mono s3 p3).mono s4 p4).append (.one (r4.of_pure hp5)), by rw [List.length_append, List.length_singleton]; omega, hl⟩
                    · cases hl
                | false =>
                  refine iteF ?_
                  have R6 := R3b.wipe hn
                  rw [ew] at R6
                  exact ⟨F3, rho3, _, acc, accv, s2a.trans s3, p3, R6, f3, hD3, ra.mono s3 p3, by omega, hl⟩
        · cases hl
  · cases e2
theorem frz_go {K : Kx} {m : M (List D)} : ∀ σ H Q, Te K (E.frz m) σ H Q → Tf K m σ H Q := by
  rintro σ H Q ⟨B, F, rho, om, z, g⟩
  refine (g.bnd.imp fun _ _ H1 _ _ v _ _ _ _ _ ⟨F2, rho2, z2, xs, eg1, s1, p1, ⟨p, vs, hv, hp, f, r1⟩, g1⟩ => ?_).tx (R := rF K)
  subst hv
  obtain ⟨R, d, z4, e, k⟩ := g1
  cases e
  obtain ⟨R3, s3⟩ := R.lay f hp
  exact k _ rho2 _ _ s3 (List.prefix_refl _) R3 (.pure (.lst upd_same (r1.mono s3 (List.prefix_refl _))))
theorem set_go {K : Kx} {i : Nat} {m : M D} {te : TE} (h : ∀ σ H Q, Te K m σ H Q → te σ H Q) : ∀ D σ H, Ts K (C.set i m) D σ H → tAsg te (gName i) D σ H := by
  rintro D σ H ⟨B, F, rho, om, z, R, f, z', e, k⟩
  obtain ⟨d, z1, e1, e2⟩ := bnd_some e
  refine h σ H _ ⟨B, F, rho, om, z, R, d, z1, e1, fun F1 rho1 H1 v s p R1 r1 => ?_⟩
  try dsimp only at e2
  split at e2
  · rename_i hp
    cases e2
    exact k F1 rho1 _ _ H1 s p (R1.setVal i (r1.of_pure hp))
  · cases e2
theorem mts_nil {X : Cx} : PTs X [] (Tt (kx X Tb) (ret true)) := pts_imp pts_nil fun σ H Q ⟨B, F, rho, om, z, g⟩ => g.ret true rfl
theorem mts_one {X : Cx} {c : Expr} {t : M Bool} (h : PT X c (Tt (kx X Tb) t)) : PTs X [c] (Tt (kx X Tb) t) := pts_one h
section
variable {X : Cx} {Tb : Tbs} {elt tg iter : Expr} {ifs : List Expr} {scope : Scope} {own : List (Str × Nat)} {pos : Pos} {mi : M It} {g : G} {tt : M Bool} {te : M D}
theorem mf_lc (vs : List Nat) (hc : X.calm = true) (hN : X.N.Nodup) (hi : PI X tg iter (Ti (kx X Tb) mi)) (ok : BlkOk X.N X.env.scope scope own) (hv : own.map (·.2) = vs)
    (hg : ∀ (s : Shared) (H : Hp) (C : Addr) (cl : List (Str × Addr)) (fp : List Addr), PG (X.blk s H scope (compEnvC scope cl C X.env) fp) tg (Tg (kx X Tb) g)) (ht : ∀ (s : Shared) (H : Hp) (C : Addr) (cl : List (Str × Addr)) (fp : List Addr), PTs (X.blk s H scope (compEnvC scope cl C X.env) fp) ifs (Tt (kx X Tb) tt))
    (he : ∀ (s : Shared) (H : Hp) (C : Addr) (cl : List (Str × Addr)) (fp : List Addr), PE (X.blk s H scope (compEnvC scope cl C X.env) fp) elt (Te (kx X Tb) te)) (hw : ∀ w ∈ g.ws, w ∈ vs) (hs : ∀ x, foldedSetIterable iter X.env x = pure x := by intro _; rfl) :
    PE X (.ListComp elt [⟨tg, iter, ifs, 0⟩] scope pos) (Tf (kx X Tb) (N.comp mi g vs tt te)) := by
  subst hv
  exact pe_imp (pe_lc hc hN hi ok hg ht he hs) (lc_go hw)
/-- name = [..], the name a local: the name owns the list; the list is laid down -/
theorem ms_ownLc {i : Nat} {y : Str} {py spos : Pos} (vs : List Nat) (hc : X.calm = true) (hN : X.N.Nodup) (hy : X.N[i]? = some y) (hyl : X.env.scope.names.lookup y = some .local)
    (hsw : swapsWith (.ListComp elt [⟨tg, iter, ifs, 0⟩] scope pos) (some (.Name y py)) spos.line X.env = pure true) (hi : PI X tg iter (Ti (kx X Tb) mi)) (ok : BlkOk X.N X.env.scope scope own) (hv : own.map (·.2) = vs)
    (hg : ∀ (s : Shared) (H : Hp) (C : Addr) (cl : List (Str × Addr)) (fp : List Addr), PG (X.blk s H scope (compEnvC scope cl C X.env) fp) tg (Tg (kx X Tb) g)) (ht : ∀ (s : Shared) (H : Hp) (C : Addr) (cl : List (Str × Addr)) (fp : List Addr), PTs (X.blk s H scope (compEnvC scope cl C X.env) fp) ifs (Tt (kx X Tb) tt))
    (he : ∀ (s : Shared) (H : Hp) (C : Addr) (cl : List (Str × Addr)) (fp : List Addr), PE (X.blk s H scope (compEnvC scope cl C X.env) fp) elt (Te (kx X Tb) te)) (hw : ∀ w ∈ g.ws, w ∈ vs) (hs : ∀ x, foldedSetIterable iter X.env x = pure x := by intro _; rfl) :
    PS X (.Assign [.Name y py] (.ListComp elt [⟨tg, iter, ifs, 0⟩] scope pos) spos) (Ts (kx X Tb) (C.own i (N.comp mi g vs tt te))) := by
  subst hv
  exact ps_imp (ps_setLc hc hN hy hyl hsw hi ok hg ht he hs) (own_go (lc_go hw))
theorem ms_frzLc {i : Nat} {y : Str} {py spos : Pos} (vs : List Nat) (hc : X.calm = true) (hN : X.N.Nodup) (hy : X.N[i]? = some y) (hyl : X.env.scope.names.lookup y = some .local)
    (hsw : swapsWith (.ListComp elt [⟨tg, iter, ifs, 0⟩] scope pos) (some (.Name y py)) spos.line X.env = pure true) (hi : PI X tg iter (Ti (kx X Tb) mi)) (ok : BlkOk X.N X.env.scope scope own) (hv : own.map (·.2) = vs)
    (hg : ∀ (s : Shared) (H : Hp) (C : Addr) (cl : List (Str × Addr)) (fp : List Addr), PG (X.blk s H scope (compEnvC scope cl C X.env) fp) tg (Tg (kx X Tb) g)) (ht : ∀ (s : Shared) (H : Hp) (C : Addr) (cl : List (Str × Addr)) (fp : List Addr), PTs (X.blk s H scope (compEnvC scope cl C X.env) fp) ifs (Tt (kx X Tb) tt))
    (he : ∀ (s : Shared) (H : Hp) (C : Addr) (cl : List (Str × Addr)) (fp : List Addr), PE (X.blk s H scope (compEnvC scope cl C X.env) fp) elt (Te (kx X Tb) te)) (hw : ∀ w ∈ g.ws, w ∈ vs) (hs : ∀ x, foldedSetIterable iter X.env x = pure x := by intro _; rfl) :
    PS X (.Assign [.Name y py] (.ListComp elt [⟨tg, iter, ifs, 0⟩] scope pos) spos) (Ts (kx X Tb) (C.set i (E.frz (N.comp mi g vs tt te)))) := by
  subst hv
  exact ps_imp (ps_setLc hc hN hy hyl hsw hi ok hg ht he hs) (set_go fun σ H Q h => lc_go hw σ H Q (frz_go σ H Q h))
end
theorem fn_body {K : Kx} {sc : Scope} {N ps : List Str} {b : C} {vs : List V} {H : Hp} {Q : VK} {E : XK} (S : FnScope N ps sc) (h : spM ps.length K (fn N.length ps.length b) vs H Q E) : Ts K b { nx := fun _ H' => Q .non H', rt := Q } (start N vs) H := by
  obtain ⟨hl, F0, rho, h0, ds, rh, rp, d, h', e, kk⟩ := h
  have hN : ps.length ≤ N.length := by
    have := congrArg List.length S.pre
    rw [List.length_take] at this
    omega
  have R0 := Rl.begin (N := N) rh rp (by omega)
  unfold fn at e
  split at e
  · cases hb2 : b ⟨slots N.length ds, h0⟩ with
    | none =>
      rw [hb2] at e
      cases e
    | some q =>
      obtain ⟨f1, z1⟩ := q
      rw [hb2] at e
      refine ⟨_, F0, rho, _, _, R0, f1, z1, hb2, ?_⟩
      have fin : ∀ {F' rho' om' σ' H' d v}, Rl K ⟨H, F0, rho, fun a => (∃ n : Nat, rho[n]? = some a) ∨ ∃ p ∈ K.tb.t, p.1 = a⟩ F' rho' om' z1 σ' H' → Rp K F' rho' d v → some (d, z1.h) = some ((d : D), h') → (∀ (F' : Hp) (rho' : List Addr) (H' : Hp) (v : V), Same F0 F' → rho <+: rho' → Rh K F' rho' h' H' → (∀ a o, H a = some o → (∀ n : Nat, ¬ rho[n]? = some a) → (∀ p ∈ K.tb.t, ¬ p.1 = a) → H' a = some o) →
          (∀ a o, H a = some o → NT o → F0 a = none → (∀ n : Nat, ¬ rho[n]? = some a) → F' a = none) → (∀ (n : Nat) a, rho'[n]? = some a → (∃ m : Nat, rho[m]? = some a) ∨ H a = none) → Rp K F' rho' d v → Q v H') → Q v H' := by
        intro F' rho' om' σ' H' d v R' r e kk
        cases e
        exact kk F' rho' H' v R'.exf R'.exr R'.rh (fun a o h1 h2 h3 => R'.frm a o h1 fun q => q.elim (fun ⟨n, q⟩ => h2 n q) fun ⟨p, hp, q⟩ => h3 p hp q) (fun a o h1 nt h2 h3 => by
            by_cases c : ∃ p ∈ K.tb.t, p.1 = a
            · obtain ⟨p, hp, rfl⟩ := c
              exact R'.rh.tb.nf p hp
            · exact R'.nF a o h1 nt h2 fun q => q.elim (fun ⟨n, q⟩ => h3 n q) c) (fun n a q => by
            rcases R'.nr n a q with (h | ⟨p, hp, rfl⟩) | h
            · exact .inl h
            · exact absurd q (R'.rh.tr p hp n)
            · exact .inr h) r
      cases f1 with
      | nx =>
        cases e
        exact fun F' rho' om' σ' H' s p R' => fin R' .non rfl kk
      | rt d' =>
        cases e
        exact fun F' rho' om' σ' H' v s p R' r => fin R' r rfl kk
      | bk => cases e
      | ct => cases e
  · cases e
end Mi
set_option Elab.async false
set_option linter.all false
set_option maxRecDepth 100000
namespace Mi
open PySem PySem.Spec PyProof.Rows L2
end Mi
set_option Elab.async false
set_option linter.all false
set_option maxRecDepth 100000
namespace Mi
open PySem PySem.Spec PyProof.Rows L2
def Smn (n : Nat) (i : Int) : Prop := i.natAbs < 2 ^ n
theorem Smn.up {n : Nat} {i : Int} (h : Smn n i) (hn : n ≤ bigN) : smI i := Nat.lt_of_lt_of_le h (Nat.pow_le_pow_right (by decide) hn)
theorem Smn.mono {n m : Nat} {i : Int} (h : Smn n i) (hn : n ≤ m) : Smn m i := Nat.lt_of_lt_of_le h (Nat.pow_le_pow_right (by decide) hn)
theorem Smn.mul {n m : Nat} {i j : Int} (h : Smn n i) (h2 : Smn m j) : Smn (n + m) (i * j) := wide_lt h h2
theorem Smn.add {n m : Nat} {i j : Int} (h : Smn n i) (h2 : Smn m j) : Smn (max n m + 1) (i + j) := by
  have a := h.mono (Nat.le_max_left n m)
  have b := h2.mono (Nat.le_max_right n m)
  unfold Smn at *
  rw [Nat.pow_succ]
  omega
theorem Smn.sub {n m : Nat} {i j : Int} (h : Smn n i) (h2 : Smn m j) : Smn (max n m + 1) (i - j) := by
  have a := h.mono (Nat.le_max_left n m)
  have b := h2.mono (Nat.le_max_right n m)
  unfold Smn at *
  rw [Nat.pow_succ]
  omega
theorem Smn.neg {n : Nat} {i : Int} (h : Smn n i) : Smn n (-i) := by
  unfold Smn at *
  omega
theorem Smn.of {i : Int} (h : -9223372036854775808 ≤ i ∧ i ≤ 9223372036854775807) : Smn 64 i := by
  unfold Smn
  omega
theorem Smn.nat {n : Nat} (h : n < 2 ^ 64) : Smn 64 (OfNat.ofNat n : Int) := by
  unfold Smn
  exact h
theorem Smn.ite {n m : Nat} {i j : Int} {c : Prop} [Decidable c] (h : Smn n i) (h2 : Smn m j) : Smn (max n m) (if c then i else j) := by
  split
  · exact h.mono (Nat.le_max_left _ _)
  · exact h2.mono (Nat.le_max_right _ _)
theorem Smn.div {n : Nat} {i j : Int} (h : Smn n i) (hj : 0 < j) : Smn n (i / j) := by
  unfold Smn at *
  refine Nat.lt_of_le_of_lt ?_ h
  have h1 := Int.natAbs_ediv_le_natAbs i j
  exact h1
theorem Smn.mod {n : Nat} {i j : Int} (h : Smn n j) (hj : 0 < j) : Smn n (i % j) := by
  unfold Smn at *
  have h1 := Int.emod_nonneg i (show j ≠ 0 by omega)
  have h2 := Int.emod_lt_of_pos i hj
  omega
def isNon : D → Bool
  | .non => true
  | _ => false
def noScr : D → Bool
  | .scr _ => false
  | _ => true
def itemsOf : D → Option (List D)
  | .lst ys => some ys
  | .tup ys => some ys
  | .scr ys => some ys
  | _ => none
section
variable {z z1 z2 z3 : Z} {a b c : M D} {x y w d : D} {i j k : Int} {p q : Bool} {t u : M Bool} {s : List Sl} {h h' : List D}
theorem ev_var {n : Nat} (e : z.s[n]? = some (.val d)) : E.var n z = some (d, z) := by
  unfold E.var
  rw [e]
theorem ev_varO {n : Nat} (e : z.s[n]? = some (.own d)) : E.var n z = some (.own n, z) := by
  unfold E.var
  rw [e]
theorem ev_c : E.c d z = some (d, z) := rfl
theorem bnd_of {α β : Type} {m : M α} {f : α → M β} {v : α} (h : m z = some (v, z1)) : bnd m f z = f v z1 := by
  unfold bnd
  rw [h]
theorem ev_op {f : D → D → Z → Option D} (h1 : a z = some (x, z1)) (h2 : b z1 = some (y, z2)) (h3 : f x y z2 = some d) : E.op f a b z = some (d, z2) := by
  unfold E.op
  rw [bnd_of h1, bnd_of h2, h3]
theorem ev_un {f : D → Z → Option D} (h1 : a z = some (x, z1)) (h3 : f x z1 = some d) : E.un f a z = some (d, z1) := by
  unfold E.un
  rw [bnd_of h1, h3]
theorem ev_add (h1 : a z = some (.int i, z1)) (h2 : b z1 = some (.int j, z2)) : E.op O.add a b z = some (.int (i + j), z2) := ev_op h1 h2 rfl
theorem ev_sub (h1 : a z = some (.int i, z1)) (h2 : b z1 = some (.int j, z2)) : E.op O.sub a b z = some (.int (i - j), z2) := ev_op h1 h2 rfl
theorem mul_v (hi : smI i) (hj : smI j) : O.mul (.int i) (.int j) z = some (.int (i * j)) := by
  unfold O.mul
  exact if_pos ⟨hi, hj⟩
theorem div_v (hi : 0 < j) (hj : smI j) : O.div (.int i) (.int j) z = some (.int (i / j)) := by
  unfold O.div
  exact if_pos ⟨hi, hj⟩
theorem mod_v (hi : 0 < j) : O.mod (.int i) (.int j) z = some (.int (i % j)) := by
  unfold O.mod
  exact if_pos hi
theorem ev_mul {n m : Nat} (h1 : a z = some (.int i, z1)) (h2 : b z1 = some (.int j, z2)) (hi : Smn n i) (hj : Smn m j) (hn : n ≤ bigN) (hm : m ≤ bigN) : E.op O.mul a b z = some (.int (i * j), z2) := ev_op h1 h2 (mul_v (hi.up hn) (hj.up hm))
theorem ev_div {m : Nat} (h1 : a z = some (.int i, z1)) (h2 : b z1 = some (.int j, z2)) (hi : 0 < j) (hj : Smn m j) (hm : m ≤ bigN) : E.op O.div a b z = some (.int (i / j), z2) := ev_op h1 h2 (div_v hi (hj.up hm))
theorem ev_mod (h1 : a z = some (.int i, z1)) (h2 : b z1 = some (.int j, z2)) (hi : 0 < j) : E.op O.mod a b z = some (.int (i % j), z2) := ev_op h1 h2 (mod_v hi)
theorem ev_neg (h1 : a z = some (.int i, z1)) : E.un O.neg a z = some (.int (-i), z1) := ev_un h1 rfl
theorem ev_lt (h1 : a z = some (.int i, z1)) (h2 : b z1 = some (.int j, z2)) : E.op O.lt a b z = some (.bl (decide (i < j)), z2) := ev_op h1 h2 rfl
theorem ev_le (h1 : a z = some (.int i, z1)) (h2 : b z1 = some (.int j, z2)) : E.op O.le a b z = some (.bl (decide (i ≤ j)), z2) := ev_op h1 h2 rfl
theorem ev_gt (h1 : a z = some (.int i, z1)) (h2 : b z1 = some (.int j, z2)) : E.op O.gt a b z = some (.bl (decide (j < i)), z2) := ev_op h1 h2 rfl
theorem ev_ge (h1 : a z = some (.int i, z1)) (h2 : b z1 = some (.int j, z2)) : E.op O.ge a b z = some (.bl (decide (j ≤ i)), z2) := ev_op h1 h2 rfl
theorem eqP_int : O.eqP (.int i) (.int j) z = some (decide (i = j)) := by
  show (if True ∧ True then some (i == j) else none) = _
  rw [if_pos ⟨trivial, trivial⟩, Bool.beq_eq_decide_eq]
theorem ev_eq {kk : Bool} (h1 : a z = some (x, z1)) (h2 : b z1 = some (y, z2)) (h3 : O.eqP x y z2 = some kk) : E.op O.eq a b z = some (.bl kk, z2) := ev_op h1 h2 (by unfold O.eq; rw [h3]; rfl)
theorem ev_ne {kk : Bool} (h1 : a z = some (x, z1)) (h2 : b z1 = some (y, z2)) (h3 : O.eqP x y z2 = some kk) : E.op O.ne a b z = some (.bl (!kk), z2) := ev_op h1 h2 (by unfold O.ne; rw [h3]; rfl)
theorem ev_eqI (h1 : a z = some (.int i, z1)) (h2 : b z1 = some (.int j, z2)) : E.op O.eq a b z = some (.bl (decide (i = j)), z2) := ev_eq h1 h2 eqP_int
theorem ev_neI (h1 : a z = some (.int i, z1)) (h2 : b z1 = some (.int j, z2)) : E.op O.ne a b z = some (.bl (!decide (i = j)), z2) := ev_ne h1 h2 eqP_int
theorem ev_ix {tt : Bool} {ds : List D} (h1 : a z = some (x, z1)) (h2 : b z1 = some (.int i, z2)) (h3 : cont x z2 = some (tt, ds)) (h4 : atI ds i = some d) : E.op O.ix a b z = some (d, z2) := ev_op h1 h2 (by unfold O.ix; rw [h3]; exact h4)
theorem ev_isN (h1 : a z = some (x, z1)) {kk : Bool} (h2 : isNon x = kk) : E.isN a z = some (.bl kk, z1) := by
  unfold E.isN
  rw [bnd_of h1, ← h2]
  cases x <;> rfl
theorem ev_notN (h1 : a z = some (x, z1)) {kk : Bool} (h2 : (!isNon x) = kk) : E.notN a z = some (.bl kk, z1) := by
  unfold E.notN
  rw [bnd_of h1, ← h2]
  cases x <;> rfl
theorem ev_args0 : E.args [] z = some ([], z) := rfl
theorem ev_args {as : List (M D)} {xs : List D} (h1 : a z = some (x, z1)) (h2 : E.args as z1 = some (xs, z2)) (hp : isPure x = true) : E.args (a :: as) z = some (x :: xs, z2) := by
  unfold E.args
  rw [bnd_of h1, bnd_of h2, if_pos hp]
  rfl
theorem ev_tup {as : List (M D)} {xs : List D} (h1 : E.args as z = some (xs, z1)) : E.tup as z = some (.tup xs, z1) := by
  unfold E.tup
  rw [bnd_of h1]
  rfl
theorem ev_frz {m : M (List D)} {xs : List D} (h1 : m z = some (xs, z1)) : E.frz m z = some (.lst xs, z1) := by
  unfold E.frz
  rw [bnd_of h1]
  rfl
theorem ev_shr {m : M (List D)} {xs : List D} (h1 : m z = some (xs, ⟨s, h⟩)) : E.shr m z = some (.ref h.length, ⟨s, h ++ [.lst xs]⟩) := by
  unfold E.shr
  rw [bnd_of h1]
theorem ev_disp {as : List (M D)} {xs : List D} (h1 : E.args as z = some (xs, z1)) : N.disp as z = some (xs, z1) := h1
theorem ev_call {mf : Fn} {as : List (M D)} {xs : List D} (h1 : E.args as z = some (xs, ⟨s, h⟩)) (h2 : mf xs h = some (d, h')) : E.call mf as z = some (d, ⟨s, h'⟩) := by
  unfold E.call
  rw [bnd_of h1]
  show (match mf xs h with | none => none | some (d, h') => some (d, _)) = _
  rw [h2]
theorem ev_blt1 {f : List D → Z → Option D} (h1 : a z = some (x, z1)) (h2 : f [x] z1 = some d) : E.blt f [a] z = some (d, z1) := by
  show bnd a _ z = _
  rw [bnd_of h1, h2]
theorem ev_blt2 {f : List D → Z → Option D} {xs : List D} (h1 : E.args [a, b] z = some (xs, z1)) (h2 : f xs z1 = some d) : E.blt f [a, b] z = some (d, z1) := by
  show bnd (E.args [a, b]) _ z = _
  rw [bnd_of h1, h2]
theorem ev_and (h1 : a z = some (.bl p, z)) (h2 : p = true → b z = some (.bl q, z)) : E.and a b z = some (.bl (p && q), z) := by
  unfold E.and
  rw [bnd_of h1]
  cases p with
  | true => exact h2 rfl
  | false => rfl
theorem ev_or (h1 : a z = some (.bl p, z)) (h2 : p = false → b z = some (.bl q, z)) : E.or a b z = some (.bl (p || q), z) := by
  unfold E.or
  rw [bnd_of h1]
  cases p with
  | false => exact h2 rfl
  | true => rfl
theorem ev_not (h1 : a z = some (.bl p, z1)) : E.not a z = some (.bl (!p), z1) := by
  unfold E.not
  rw [bnd_of h1]
  rfl
theorem ev_chain {f g : D → D → Z → Option D} (h1 : a z = some (x, z1)) (h2 : b z1 = some (y, z1)) (h3 : f x y z1 = some (.bl p)) (h4 : p = true → c z1 = some (w, z1)) (h5 : p = true → g y w z1 = some (.bl q)) : E.chain f g a b c z = some (.bl (p && q), z1) := by
  unfold E.chain
  rw [bnd_of h1, bnd_of h2, h3]
  cases p with
  | true =>
    dsimp only
    rw [bnd_of (h4 rfl), h5 rfl]
    rfl
  | false => rfl
theorem tv (h1 : a z = some (.bl p, z1)) : T.val a z = some (p, z1) := by
  unfold T.val
  rw [bnd_of h1]
  rfl
theorem tt_tru (h1 : a z = some (x, z1)) (h2 : O.tru x z1 = some p) : T.tru a z = some (p, z1) := by
  unfold T.tru
  rw [bnd_of h1, h2]
theorem tt_and (h1 : t z = some (p, z)) (h2 : p = true → u z = some (q, z)) : T.and t u z = some (p && q, z) := by
  unfold T.and
  rw [bnd_of h1]
  cases p with
  | true => exact h2 rfl
  | false => rfl
theorem tt_or (h1 : t z = some (p, z)) (h2 : p = false → u z = some (q, z)) : T.or t u z = some (p || q, z) := by
  unfold T.or
  rw [bnd_of h1]
  cases p with
  | false => exact h2 rfl
  | true => rfl
theorem tt_not (h1 : t z = some (p, z1)) : T.not t z = some (!p, z1) := by
  unfold T.not
  rw [bnd_of h1]
  rfl
theorem ev_ofSeq {tt : Bool} {ds : List D} (h1 : a z = some (x, z1)) (h2 : cont x z1 = some (tt, ds)) : N.ofSeq a z = some (ds, z1) := by
  unfold N.ofSeq
  rw [bnd_of h1, h2]
theorem ev_part0 : N.part none z = some (none, z) := rfl
theorem ev_part (h1 : a z = some (.int i, z1)) : N.part (some a) z = some (some i, z1) := by
  show bnd a _ z = _
  rw [bnd_of h1]
  rfl
theorem ev_slice {lo hi : Option (M D)} {l u : Option Int} {ds : List D} (h1 : a z = some (x, z1)) (h2 : N.part lo z1 = some (l, z2)) (h3 : N.part hi z2 = some (u, z3)) (h4 : cont x z3 = some (false, ds)) : N.slice a lo hi z = some (N.cutL ds l u, z3) := by
  unfold N.slice
  rw [bnd_of h1, bnd_of h2, bnd_of h3, h4]
theorem ev_cat {ds es : List D} (h1 : a z = some (x, z1)) (h2 : b z1 = some (y, z2)) (h3 : cont x z2 = some (false, ds)) (h4 : cont y z2 = some (false, es)) (hx : noScr x = true) (hy : noScr y = true) (hl : ds.length + es.length < szl) : N.cat a b z = some (ds ++ es, z2) := by
  unfold N.cat
  rw [bnd_of h1, bnd_of h2]
  try dsimp only
  split
  · cases hx
  · cases hy
  · rw [h3, h4]
    dsimp only
    rw [if_pos hl]
theorem ev_chgO {f : List D → List D → Option (D × List D)} {as : List (M D)} {xs ds ds0 ds' : List D} {n : Nat} (h1 : a z = some (.own n, z1)) (h0 : z1.s[n]? = some (.own (.lst ds0))) (h2 : E.args as z1 = some (xs, ⟨s, h⟩)) (h3 : s[n]? = some (.own (.lst ds))) (h4 : f ds xs = some (d, ds')) : E.chg f a as z = some (d, ⟨s.set n (.own (.lst ds')), h⟩) := by
  unfold E.chg
  rw [bnd_of h1]
  have hi : E.isLst (.own n) z1 = true := by
    show (cont (.own n) z1).isSome = true
    show (match z1.s[n]? with | some (.own (.lst xs)) => some (false, xs) | _ => none).isSome = true
    rw [h0]
    rfl
  try dsimp only
  rw [if_pos hi, bnd_of h2]
  show (match s[n]? with
    | some (.own (.lst ds)) => match f ds xs with
      | none => none
      | some (d, ds') => some (d, (⟨s.set n (.own (.lst ds')), h⟩ : Z))
    | _ => none) = _
  rw [h3]
  dsimp only
  rw [h4]
theorem ev_chgR {f : List D → List D → Option (D × List D)} {as : List (M D)} {xs ds ds0 ds' : List D} {n : Nat} (h1 : a z = some (.ref n, z1)) (h0 : z1.h[n]? = some (.lst ds0)) (h2 : E.args as z1 = some (xs, ⟨s, h⟩)) (h3 : h[n]? = some (.lst ds)) (h4 : f ds xs = some (d, ds')) : E.chg f a as z = some (d, ⟨s, h.set n (.lst ds')⟩) := by
  unfold E.chg
  rw [bnd_of h1]
  have hi : E.isLst (.ref n) z1 = true := by
    show (match z1.h[n]? with | some (.lst xs) => some (false, xs) | _ => none).isSome = true
    rw [h0]
    rfl
  try dsimp only
  rw [if_pos hi, bnd_of h2]
  show (match h[n]? with
    | some (.lst ds) => match f ds xs with
      | none => none
      | some (d, ds') => some (d, (⟨s, h.set n (.lst ds')⟩ : Z))
    | _ => none) = _
  rw [h3]
  dsimp only
  rw [h4]
theorem ixN0 {n : Nat} : ixN (n + 1) 0 = some 0 := by
  unfold ixN
  rw [if_pos (by decide), if_pos (by omega)]
  rfl
theorem popAt0 {ds : List D} : U.popAt (x :: ds) [.int 0] = some (x, ds) := by
  show (if -(2 ^ 63) ≤ (0 : Int) ∧ (0 : Int) < 2 ^ 63 then match ixN (ds.length + 1) 0 with
    | some k => match (x :: ds)[k]? with
      | some d => some (d, (x :: ds).eraseIdx k)
      | none => none
    | none => none else none) = _
  rw [if_pos (by decide), ixN0]
  rfl
theorem setAt0 {ds : List D} : U.setAt (x :: ds) 0 y = some (y :: ds) := by
  show (ixN (ds.length + 1) 0).map _ = _
  rw [ixN0]
  rfl
variable {ca cb : C} {f : Fl} {r : Option (Fl × Z)}
theorem cs_skip : C.skip z = some (.nx, z) := rfl
theorem cs_nx (h1 : ca z = some (.nx, z1)) (h2 : cb z1 = r) : C.seq ca cb z = r := by
  unfold C.seq
  rw [h1]
  exact h2
theorem cs_rt (h1 : ca z = some (.rt d, z1)) : C.seq ca cb z = some (.rt d, z1) := by
  unfold C.seq
  rw [h1]
theorem cs_ct (h1 : ca z = some (.ct, z1)) : C.seq ca cb z = some (.ct, z1) := by
  unfold C.seq
  rw [h1]
theorem cs_bk (h1 : ca z = some (.bk, z1)) : C.seq ca cb z = some (.bk, z1) := by
  unfold C.seq
  rw [h1]
theorem cs_set {n : Nat} (h1 : a z = some (d, ⟨s, h⟩)) (hp : isPure d = true) : C.set n a z = some (.nx, ⟨s.set n (.val d), h⟩) := by
  unfold C.set
  rw [bnd_of h1]
  exact if_pos hp
theorem cs_own {n : Nat} {m : M (List D)} {ds : List D} (h1 : m z = some (ds, ⟨s, h⟩)) (hn : n < s.length) : C.own n m z = some (.nx, ⟨s.set n (.own (.lst ds)), h⟩) := by
  unfold C.own
  rw [bnd_of h1]
  exact if_pos hn
theorem cs_frz {n : Nat} {ds : List D} (h1 : s[n]? = some (.own (.lst ds))) : C.frz n ⟨s, h⟩ = some (.nx, ⟨s.set n (.val (.lst ds)), h⟩) := by
  unfold C.frz
  rw [h1]
theorem cs_drop (h1 : a z = some (d, z1)) : C.drop a z = some (.nx, z1) := by
  unfold C.drop
  rw [bnd_of h1]
theorem cs_ret (h1 : a z = some (d, z1)) (hp : isPure d = true) : C.ret a z = some (.rt d, z1) := by
  unfold C.ret
  rw [bnd_of h1]
  cases d <;> first | rfl | cases hp
theorem cs_retO {n : Nat} {ds : List D} (h1 : a z = some (.own n, ⟨s, h⟩)) (h2 : s[n]? = some (.own (.lst ds))) : C.ret a z = some (.rt (.lst ds), ⟨s.set n .no, h⟩) := by
  unfold C.ret
  rw [bnd_of h1]
  show (match s[n]? with | some (.own (.lst ds)) => some (Fl.rt (D.lst ds), (⟨s.set n .no, h⟩ : Z)) | _ => none) = _
  rw [h2]
theorem cs_iteT (h1 : t z = some (true, z1)) (h2 : ca z1 = r) : C.ite t ca cb z = r := by
  unfold C.ite
  rw [bnd_of h1]
  exact h2
theorem cs_iteF (h1 : t z = some (false, z1)) (h2 : cb z1 = r) : C.ite t ca cb z = r := by
  unfold C.ite
  rw [bnd_of h1]
  exact h2
theorem cs_asg {g : G} (h1 : a z = some (d, z1)) (hp : isPure d = true) (h2 : g.run d z1 = some z2) : C.asg g a z = some (.nx, z2) := by
  unfold C.asg
  rw [bnd_of h1]
  try dsimp only
  rw [if_pos hp, h2]
theorem cs_aug {n : Nat} {g : D → D → Z → Option D} (h1 : z.s[n]? = some (.val x)) (h2 : a z = some (y, ⟨s, h⟩)) (h3 : g x y ⟨s, h⟩ = some d) (hp : isPure d = true) : C.aug n g a z = some (.nx, ⟨s.set n (.val d), h⟩) := by
  unfold C.aug
  rw [h1]
  dsimp only
  rw [bnd_of h2, h3]
  exact if_pos hp
theorem cs_setIxO {n : Nat} {ds ds' : List D} (h1 : c z = some (d, z1)) (h2 : a z1 = some (.own n, z2)) (h3 : b z2 = some (.int i, ⟨s, h⟩)) (hp : isPure d = true) (h4 : s[n]? = some (.own (.lst ds))) (h5 : U.setAt ds i d = some ds') : C.setIx a b c z = some (.nx, ⟨s.set n (.own (.lst ds')), h⟩) := by
  unfold C.setIx
  rw [bnd_of h1, bnd_of h2, bnd_of h3, if_pos hp]
  show (match s[n]? with
      | some (.own (.lst ds)) => match U.setAt ds i d with
        | some ds' => some (Fl.nx, (⟨s.set n (.own (.lst ds')), h⟩ : Z))
        | none => none
      | _ => none) = _
  rw [h4]
  dsimp only
  rw [h5]
theorem cs_setIxR {n : Nat} {ds ds' : List D} (h1 : c z = some (d, z1)) (h2 : a z1 = some (.ref n, z2)) (h3 : b z2 = some (.int i, ⟨s, h⟩)) (hp : isPure d = true) (h4 : h[n]? = some (.lst ds)) (h5 : U.setAt ds i d = some ds') : C.setIx a b c z = some (.nx, ⟨s, h.set n (.lst ds')⟩) := by
  unfold C.setIx
  rw [bnd_of h1, bnd_of h2, bnd_of h3, if_pos hp]
  show (match h[n]? with
      | some (.lst ds) => match U.setAt ds i d with
        | some ds' => some (Fl.nx, (⟨s, h.set n (.lst ds')⟩ : Z))
        | none => none
      | _ => none) = _
  rw [h4]
  dsimp only
  rw [h5]
theorem cs_setN {n : Nat} {s' : List Sl} (h1 : a z = some (d, ⟨s, h⟩)) (hp : isPure d = true) (hs : s.set n (.val d) = s') : C.set n a z = some (.nx, ⟨s', h⟩) := by
  subst hs
  exact cs_set h1 hp
theorem cs_ownN {n : Nat} {m : M (List D)} {ds : List D} {s' : List Sl} (h1 : m z = some (ds, ⟨s, h⟩)) (hn : n < s.length) (hs : s.set n (.own (.lst ds)) = s') : C.own n m z = some (.nx, ⟨s', h⟩) := by
  subst hs
  exact cs_own h1 hn
theorem cs_frzN {n : Nat} {ds : List D} {s' : List Sl} (h1 : s[n]? = some (.own (.lst ds))) (hs : s.set n (.val (.lst ds)) = s') : C.frz n ⟨s, h⟩ = some (.nx, ⟨s', h⟩) := by
  subst hs
  exact cs_frz h1
theorem cs_augN {n : Nat} {g : D → D → Z → Option D} {s' : List Sl} (h1 : z.s[n]? = some (.val x)) (h2 : a z = some (y, ⟨s, h⟩)) (h3 : g x y ⟨s, h⟩ = some d) (hp : isPure d = true) (hs : s.set n (.val d) = s') : C.aug n g a z = some (.nx, ⟨s', h⟩) := by
  subst hs
  exact cs_aug h1 h2 h3 hp
theorem cs_setIxN {n : Nat} {ds ds' : List D} {s' : List Sl} (h1 : c z = some (d, z1)) (h2 : a z1 = some (.own n, z2)) (h3 : b z2 = some (.int i, ⟨s, h⟩)) (hp : isPure d = true) (h4 : s[n]? = some (.own (.lst ds))) (h5 : U.setAt ds i d = some ds') (hs : s.set n (.own (.lst ds')) = s') : C.setIx a b c z = some (.nx, ⟨s', h⟩) := by
  subst hs
  exact cs_setIxO h1 h2 h3 hp h4 h5
theorem ev_chgN {f : List D → List D → Option (D × List D)} {as : List (M D)} {xs ds ds0 ds' : List D} {n : Nat} {s' : List Sl} (h1 : a z = some (.own n, z1)) (h0 : z1.s[n]? = some (.own (.lst ds0))) (h2 : E.args as z1 = some (xs, ⟨s, h⟩)) (h3 : s[n]? = some (.own (.lst ds))) (h4 : f ds xs = some (d, ds')) (hs : s.set n (.own (.lst ds')) = s') : E.chg f a as z = some (d, ⟨s', h⟩) := by
  subst hs
  exact ev_chgO h1 h0 h2 h3 h4
theorem fn_rt {n k : Nat} {ds : List D} (hl : ds.length = k) (h1 : ca ⟨slots n ds, h⟩ = some (.rt d, z)) : fn n k ca ds h = some (d, z.h) := by
  unfold fn
  rw [if_pos hl, h1]
theorem fn_rtH {n k : Nat} {ds : List D} (hl : ds.length = k) (h1 : ca ⟨slots n ds, h⟩ = some (.rt d, ⟨s, h'⟩)) : fn n k ca ds h = some (d, h') := fn_rt hl h1
end
/-- a body that ends with a value -/
def Ends (c : C) (z : Z) (d : D) : Prop := ∃ z', c z = some (.rt d, z')
theorem Ends.nx {a b : C} {z z1 : Z} {d : D} (h1 : a z = some (.nx, z1)) (h2 : Ends b z1 d) : Ends (C.seq a b) z d := by
  obtain ⟨z', h⟩ := h2
  exact ⟨z', cs_nx h1 h⟩
theorem Ends.one {a : C} {z z1 : Z} {d : D} (h1 : a z = some (.rt d, z1)) : Ends a z d := ⟨z1, h1⟩
theorem Ends.fn {b : C} {n k : Nat} {ds h : List D} {d : D} (hl : ds.length = k) (h1 : Ends b ⟨slots n ds, h⟩ d) : ∃ h', fn n k b ds h = some (d, h') := by
  obtain ⟨z', h⟩ := h1
  exact ⟨_, fn_rt hl h⟩
section
variable {it : It} {g : G} {b : C} {z z1 z2 : Z} {mi : M It}
theorem cs_for (h1 : mi z = some (it, z1)) {r : Option (Fl × Z)} (h2 : C.loop it g b it.items z1 = r) : C.for_ mi g b z = r := by
  unfold C.for_
  rw [bnd_of h1]
  exact h2
theorem whl_f {t : M Bool} (h1 : t z = some (false, z1)) : C.whl t b z = some (.nx, z1) := by
  rw [C.whl, h1]
theorem whl_t {t : M Bool} {r : Option (Fl × Z)} (h1 : t z = some (true, z1)) (h2 : b z1 = some (.nx, z2)) (h3 : C.whl t b z2 = r) : C.whl t b z = r := by
  rw [C.whl, h1]
  dsimp only
  rw [h2]
  exact h3
theorem whl_rt {t : M Bool} {d : D} (h1 : t z = some (true, z1)) (h2 : b z1 = some (.rt d, z2)) : C.whl t b z = some (.rt d, z2) := by
  rw [C.whl, h1]
  dsimp only
  rw [h2]
theorem whl_bk {t : M Bool} (h1 : t z = some (true, z1)) (h2 : b z1 = some (.bk, z2)) : C.whl t b z = some (.nx, z2) := by
  rw [C.whl, h1]
  dsimp only
  rw [h2]
theorem loop_nil (hk : it.chk = none) : C.loop it g b [] z = some (.nx, z) := by
  have : it.ok z = true := by unfold It.ok; rw [hk]
  unfold C.loop
  exact if_pos this
theorem loop_cons {d : D} {ds : List D} {f : Fl} {r : Option (Fl × Z)} (hk : it.chk = none) (h1 : g.run d z = some z1) (h2 : b z1 = some (f, z2)) (h3 : (match f with | .nx => C.loop it g b ds z2 | .ct => C.loop it g b ds z2 | .bk => some (.nx, z2) | .rt d => some (.rt d, z2)) = r) : C.loop it g b (d :: ds) z = r := by
  have : it.ok z = true := by unfold It.ok; rw [hk]
  unfold C.loop
  rw [if_pos this, h1]
  dsimp only
  rw [h2, ← h3]
  cases f <;> rfl
theorem ev_seq {a : M D} {x : D} {xs : List D} (h1 : a z = some (x, z1)) (h2 : itemsOf x = some xs) : I.seq a z = some (⟨xs, none⟩, z1) := by
  unfold I.seq
  rw [bnd_of h1]
  cases x <;> first | (cases h2; rfl) | cases h2
theorem ev_seqC {a : M D} {x : D} {xs : List D} (h1 : a z = some (x, z1)) (h2 : itemsOf x = some xs) : I.seqC a z = some (⟨xs, none⟩, z1) := by
  unfold I.seqC
  rw [bnd_of h1]
  cases x <;> first | (cases h2; rfl) | cases h2
theorem ev_rng1 {a : M D} {n : Int} (h1 : a z = some (.int n, z1)) (h2 : -(2 ^ 62) ≤ n ∧ n < 2 ^ 62) : I.rng1 a z = some (⟨I.irng 0 n.toNat, none⟩, z1) := by
  unfold I.rng1
  rw [bnd_of h1]
  dsimp only
  rw [if_pos h2]
  rfl
theorem ev_rng2 {a b : M D} {i j : Int} (h1 : a z = some (.int i, z1)) (h3 : b z1 = some (.int j, z2)) (h2 : (-(2 ^ 62) ≤ i ∧ i < 2 ^ 62) ∧ -(2 ^ 62) ≤ j ∧ j < 2 ^ 62) : I.rng2 a b z = some (⟨I.irng i (j - i).toNat, none⟩, z2) := by
  unfold I.rng2
  rw [bnd_of h1, bnd_of h3]
  dsimp only
  rw [if_pos h2]
  rfl
/-- a comprehension whose items and elements change nothing: item by item -/
theorem comp_loop {it : It} {g : G} {vs : List Nat} {tt : M Bool} {te : M D} (hk : it.chk = none) (fl : D → Bool) (fe : D → D) (w : Z) (step : ∀ d, d ∈ it.items → ∃ z1 z2 z3, g.run d w = some z1 ∧ tt z1 = some (fl d, z2) ∧ (fl d = true → te z2 = some (fe d, z3) ∧ isPure (fe d) = true) ∧ (fl d = true → (⟨N.wipe z3.s vs, z3.h⟩ : Z) = w) ∧ (fl d = false → (⟨N.wipe z2.s vs, z2.h⟩ : Z) = w)) :
    ∀ (ds : List D) (acc : List D), (∀ d ∈ ds, d ∈ it.items) → N.loop it g vs tt te ds acc w = some (acc ++ (ds.filter fl).map fe, w)
  | [], acc, _ => by
    have : it.ok w = true := by unfold It.ok; rw [hk]
    unfold N.loop
    rw [if_pos this]
    simp
  | d :: ds, acc, hm => by
    have ok : it.ok w = true := by unfold It.ok; rw [hk]
    obtain ⟨z1, z2, z3, h1, h2, h3, h4, h5⟩ := step d (hm d List.mem_cons_self)
    have ih := fun acc => comp_loop hk fl fe w step ds acc fun x hx => hm x (List.mem_cons_of_mem _ hx)
    unfold N.loop
    rw [if_pos ok, h1]
    dsimp only
    rw [h2]
    cases hf : fl d with
    | true =>
      obtain ⟨h6, h7⟩ := h3 hf
      dsimp only
      rw [h6]
      dsimp only
      rw [if_pos h7, h4 hf, ih]
      simp [List.filter_cons, hf]
    | false =>
      dsimp only
      rw [h5 hf, ih]
      simp [List.filter_cons, hf]
/-- .. one by one -/
theorem nl_nil {it : It} {g : G} {vs : List Nat} {tt : M Bool} {te : M D} {acc : List D} (ok : it.ok z = true) : N.loop it g vs tt te [] acc z = some (acc, z) := by
  unfold N.loop
  rw [if_pos ok]
theorem nl_t {it : It} {g : G} {vs : List Nat} {tt : M Bool} {te : M D} {acc ds : List D} {d x : D} {z1 z2 z3 : Z} {r : Option (List D × Z)} (ok : it.ok z = true) (h1 : g.run d z = some z1) (h2 : tt z1 = some (true, z2)) (h3 : te z2 = some (x, z3)) (hp : isPure x = true) (h4 : N.loop it g vs tt te ds (acc ++ [x]) ⟨N.wipe z3.s vs, z3.h⟩ = r) : N.loop it g vs tt te (d :: ds) acc z = r := by
  unfold N.loop
  rw [if_pos ok, h1]
  dsimp only
  rw [h2]
  dsimp only
  rw [h3]
  dsimp only
  rw [if_pos hp]
  exact h4
theorem nl_tN {it : It} {g : G} {vs : List Nat} {tt : M Bool} {te : M D} {acc acc' ds : List D} {d x : D} {z1 z2 : Z} {s3 s4 : List Sl} {h3 : List D} {r : Option (List D × Z)} (ok : it.ok z = true) (h1 : g.run d z = some z1) (h2 : tt z1 = some (true, z2)) (h3' : te z2 = some (x, ⟨s3, h3⟩)) (hp : isPure x = true) (hw : N.wipe s3 vs = s4) (ha : acc ++ [x] = acc') (h4 : N.loop it g vs tt te ds acc' ⟨s4, h3⟩ = r) : N.loop it g vs tt te (d :: ds) acc z = r := by
  subst hw
  subst ha
  exact nl_t ok h1 h2 h3' hp h4
theorem ev_compN {mi : M It} {it : It} {g : G} {vs : List Nat} {tt : M Bool} {te : M D} {r : List D} {s1 s2 s3 s4 : List Sl} {h1' h2' : List D} (h1 : mi z = some (it, ⟨s1, h1'⟩)) (h2 : it.items.length ≤ szl) (h3 : (vs.all fun v => !N.isOwn s1[v]?) = true) (hw : N.wipe s1 vs = s3) (h4 : N.loop it g vs tt te it.items [] ⟨s3, h1'⟩ = some (r, ⟨s2, h2'⟩)) (hr : N.rest s1 s2 vs = s4) : N.comp mi g vs tt te z = some (r, ⟨s4, h2'⟩) := by
  subst hw hr
  unfold N.comp
  rw [bnd_of h1]
  dsimp only
  rw [if_pos ⟨h2, h3⟩, h4]
theorem ev_true {α : Type} {x : α} : Mi.ret x z = some (x, z) := rfl
/-- .. in all, where the names of the block are set anew each time -/
theorem ev_comp {mi : M It} {it : It} {g : G} {vs : List Nat} {tt : M Bool} {te : M D} {r : List D} {z1 z2 : Z} (h1 : mi z = some (it, z1)) (h2 : it.items.length ≤ szl) (h3 : (vs.all fun v => !N.isOwn z1.s[v]?) = true) (h4 : N.loop it g vs tt te it.items [] ⟨N.wipe z1.s vs, z1.h⟩ = some (r, z2)) : N.comp mi g vs tt te z = some (r, ⟨N.rest z1.s z2.s vs, z2.h⟩) := by
  unfold N.comp
  rw [bnd_of h1]
  try dsimp only
  rw [if_pos ⟨h2, h3⟩, h4]
end
end Mi
set_option Elab.async false
set_option linter.all false
set_option maxRecDepth 100000
namespace Mi
open PySem PySem.Spec PyProof.Rows L2
section
variable {x d : D} {z z' : Z} {i j : Int}
theorem lf_cont {r : Option (Bool × List D)} (h : cont x z = r) : cont x z = r := h
theorem lf_atI {ds : List D} {r : Option D} (h : atI ds i = r) : atI ds i = r := h
theorem lf_get {α : Type} {xs : List α} {n : Nat} {r : Option α} (h : xs[n]? = r) : xs[n]? = r := h
theorem lf_pure {r : Bool} (h : isPure d = r) : isPure d = r := h
theorem lf_setAt {ds : List D} {r : Option (List D)} (h : U.setAt ds i d = r) : U.setAt ds i d = r := h
theorem lf_tru {r : Option Bool} (h : O.tru d z = r) : O.tru d z = r := h
theorem lf_lt {n m : Nat} (h : n < m) : n < m := h
theorem lf_pos {i : Int} (h : 0 < i) : 0 < i := h
theorem lf_le {n m : Nat} (h : n ≤ m) : n ≤ m := h
theorem lf_isNm {b : Bool} (h : isNon x = b) : isNon x = b := h
theorem lf_notNm {b : Bool} (h : (!isNon x) = b) : (!isNon x) = b := h
theorem lf_noScr {b : Bool} (h : noScr x = b) : noScr x = b := h
theorem atI_zero {xs : List D} : atI (x :: xs) 0 = some x := atI_nat (j := 0) rfl
theorem lf_abs : F.abs [.int i] z = some (.int (if i < 0 then -i else i)) := rfl
theorem lf_int1 : F.int1 [.int i] z = some (.int i) := rfl
theorem lf_max2 : F.max2 [.int i, .int j] z = some (.int (if j > i then j else i)) := rfl
theorem lf_min2 : F.min2 [.int i, .int j] z = some (.int (if j < i then j else i)) := rfl
theorem lf_len {t : Bool} {ds : List D} (h : cont x z = some (t, ds)) : F.len [x] z = some (.int ds.length) := by
  show (match cont x z with | some (_, ds) => some (D.int ds.length) | none => none) = _
  rw [h]
def noKt : D → Bool
  | .kt _ => false
  | _ => true
theorem lf_noKt {b : Bool} (h : noKt x = b) : noKt x = b := h
theorem lf_tuple {t : Bool} {ds : List D} (h : cont x z = some (t, ds)) (hk : noKt x = true) : F.tuple [x] z = some (.tup ds) := by
  have e : F.tuple [x] z = (match cont x z with | some (_, ds) => some (D.tup ds) | none => none) := by
    cases x <;> first | rfl | cases hk
  rw [e, h]
theorem lf_isi {T t : String} {b : Bool} (h : F.tyName x z = some t) (h2 : kitB t T = some b) : F.isi T x z = some (.bl b) := by
  unfold F.isi
  rw [h]
  dsimp only
  rw [h2]
  rfl
theorem lf_isiK {t T : String} {r : Option Bool} (h : kitB t T = r) : kitB t T = r := h
theorem lf_ty {r : Option String} (h : F.tyName x z = r) : F.tyName x z = r := h
theorem lf_set {s s' : List Sl} {n : Nat} {x : Sl} (h : s.set n x = s') : s.set n x = s' := h
theorem lf_slots {n : Nat} {ds : List D} {s' : List Sl} (h : slots n ds = s') : slots n ds = s' := h
theorem lf_wipe {s s' : List Sl} {vs : List Nat} (h : N.wipe s vs = s') : N.wipe s vs = s' := h
theorem lf_rest {s0 s s' : List Sl} {vs : List Nat} (h : N.rest s0 s vs = s') : N.rest s0 s vs = s' := h
theorem lf_run {g : G} {r : Option Z} (h : g.run d z = r) : g.run d z = r := h
theorem lf_len0 {ds : List D} {n : Nat} (h : ds.length = n) : ds.length = n := h
theorem lf_nl {it : It} {g : G} {vs : List Nat} {tt : M Bool} {te : M D} {ds acc : List D} {z : Z} {r : Option (List D × Z)} (h : N.loop it g vs tt te ds acc z = r) : N.loop it g vs tt te ds acc z = r := h
theorem lf_smn {n : Nat} {i : Int} (h : Smn n i) : Smn n i := h
theorem lf_ok {it : It} {r : Bool} (h : it.ok z = r) : it.ok z = r := h
theorem lf_itm {r : Option (List D)} (h : itemsOf d = r) : itemsOf d = r := h
theorem lf_bd {n : Int} (h : -(2 ^ 62) ≤ n ∧ n < 2 ^ 62) : -(2 ^ 62) ≤ n ∧ n < 2 ^ 62 := h
theorem lf_allO {vs : List Nat} {s : List Sl} {r : Bool} (h : (vs.all fun v => !N.isOwn s[v]?) = r) : (vs.all fun v => !N.isOwn s[v]?) = r := h
theorem gr_nm {n : Nat} {s s' : List Sl} {h : List D} (e : s.set n (.val d) = s') : (G.nm n).run d ⟨s, h⟩ = some ⟨s', h⟩ := by subst e; rfl
theorem gr_nil {z : Z} : G.runs [] [] z = some z := rfl
theorem gr_cons {g : G} {gs : List G} {ds : List D} {z z1 : Z} {r : Option Z} (e : g.run d z = some z1) (e2 : G.runs gs ds z1 = r) : G.runs (g :: gs) (d :: ds) z = r := by
  show (match g.run d z with | none => none | some z1 => G.runs gs ds z1) = r
  rw [e]; exact e2
theorem gr_tp {gs : List G} {ds : List D} {z : Z} {r : Option Z} (e : G.runs gs ds z = r) : (G.tp gs).run (.tup ds) z = r := e
theorem gr_tl {gs : List G} {ds : List D} {z : Z} {r : Option Z} (e : G.runs gs ds z = r) : (G.tl gs).run (.lst ds) z = r := e
theorem sl_z {a y : Sl} {s : List Sl} : (a :: s).set 0 y = y :: s := rfl
theorem sl_s {a y : Sl} {s s' : List Sl} {n : Nat} (e : s.set n y = s') : (a :: s).set (n + 1) y = a :: s' := by subst e; rfl
theorem sw_nil {s : List Sl} : N.wipe s [] = s := rfl
theorem sw_cons {s s1 s2 : List Sl} {v : Nat} {vs : List Nat} (e : N.wipe s vs = s1) (e2 : s1.set v .no = s2) : N.wipe s (v :: vs) = s2 := by subst e; exact e2
theorem sr_nil {s0 s : List Sl} : N.rest s0 s [] = s := rfl
theorem sr_cons {s0 s s1 s2 : List Sl} {x : Sl} {v : Nat} {vs : List Nat} (e0 : s0[v]? = some x) (e : N.rest s0 s vs = s1) (e2 : s1.set v x = s2) : N.rest s0 s (v :: vs) = s2 := by
  subst e
  show (match s0[v]? with | some x => (N.rest s0 s vs).set v x | none => N.rest s0 s vs) = s2
  rw [e0]; exact e2
theorem ss_nil {n : Nat} {s' : List Sl} (e : List.replicate n Sl.no = s') : slots n [] = s' := by rw [← e]; rfl
theorem ss_cons {n : Nat} {d : D} {ds : List D} {s' : List Sl} (e : slots n ds = s') : slots (n + 1) (d :: ds) = .val d :: s' := by
  rw [← e]; unfold slots; simp
theorem se_nil : List.replicate 0 Sl.no = [] := rfl
theorem se_cons {n : Nat} {s' : List Sl} (e : List.replicate n Sl.no = s') : List.replicate (n + 1) Sl.no = .no :: s' := by rw [← e]; rfl
theorem la_nil {x : D} : ([] : List D) ++ [x] = [x] := rfl
theorem la_cons {x a : D} {l l' : List D} (e : l ++ [x] = l') : (a :: l) ++ [x] = a :: l' := by subst e; rfl
theorem lf_app {x : D} {l l' : List D} (h : l ++ [x] = l') : l ++ [x] = l' := h
theorem kb_tt : kitB "tuple" "tuple" = some true := by with_unfolding_all decide
theorem kb_bb : kitB "bool" "bool" = some true := by with_unfolding_all decide
theorem kb_ii : kitB "int" "int" = some true := by with_unfolding_all decide
theorem kb_it : kitB "int" "tuple" = some false := by with_unfolding_all decide
theorem kb_ib : kitB "int" "bool" = some false := by with_unfolding_all decide
theorem kb_bi : kitB "bool" "int" = some true := by with_unfolding_all decide
theorem kb_ll : kitB "list" "list" = some true := by with_unfolding_all decide
theorem kb_ss : kitB "str" "str" = some true := by with_unfolding_all decide
theorem eqP_t3 {a0 a1 a2 b0 b1 b2 : Int} {z : Z} : O.eqP (.tup [.int a0, .int a1, .int a2]) (.tup [.int b0, .int b1, .int b2]) z = some (decide (a0 = b0) && (decide (a1 = b1) && decide (a2 = b2))) := by
  show some ((a0 == b0) && ((a1 == b1) && ((a2 == b2) && true))) = some _
  simp only [Bool.beq_eq_decide_eq, Bool.and_true]
theorem eqP_t2 {a0 a1 b0 b1 : Int} {z : Z} : O.eqP (.tup [.int a0, .int a1]) (.tup [.int b0, .int b1]) z = some (decide (a0 = b0) && decide (a1 = b1)) := by
  show some ((a0 == b0) && ((a1 == b1) && true)) = some _
  simp only [Bool.beq_eq_decide_eq, Bool.and_true]
theorem eqP_bl {a b : Bool} {z : Z} : O.eqP (.bl a) (.bl b) z = some (decide (a = b)) := by cases a <;> cases b <;> rfl
end
local macro_rules | `(tactic| wtm_at "leaf") => `(tactic| first
  | ((with_reducible apply lf_cont); rfl)
  | (with_reducible exact atI_zero)
  | ((with_reducible apply lf_dcont); rfl)
  | ((with_reducible apply lf_dcS); rfl)
  | ((with_reducible apply lf_dgetC); rfl)
  | ((with_reducible apply lf_keyD); rfl)
  | ((with_reducible apply lf_isDict); rfl)
  | ((with_reducible apply lf_dkeys); rfl)
  | ((with_reducible apply lf_atI); first | rfl | exact atI_zero)
  | ((with_reducible apply lf_get); rfl)
  | ((with_reducible apply lf_pure); rfl)
  | ((with_reducible apply lf_setAt); rfl)
  | ((with_reducible apply lf_tru); rfl)
  | ((with_reducible apply lf_lt); exact Nat.le_of_ble_eq_true rfl)
  | ((with_reducible apply lf_pos); first | assumption | decide | omega)
  | ((with_reducible apply lf_le); decide)
  | ((with_reducible apply lf_isNm); rfl)
  | ((with_reducible apply lf_notNm); rfl)
  | ((with_reducible apply lf_noScr); rfl)
  | ((with_reducible apply lf_noKt); rfl)
  | (with_reducible exact eqP_int)
  | (with_reducible exact lf_abs)
  | (with_reducible exact lf_int1)
  | (with_reducible exact lf_max2)
  | (with_reducible exact lf_min2)
  | (with_reducible apply lf_len)
  | (with_reducible apply lf_tuple)
  | (with_reducible apply lf_isi)
  | (with_reducible exact eqP_t3)
  | (with_reducible exact eqP_bl)
  | (with_reducible exact eqP_t2)
  | (with_reducible exact kb_tt)
  | (with_reducible exact kb_bb)
  | (with_reducible exact kb_ii)
  | (with_reducible exact kb_it)
  | (with_reducible exact kb_ib)
  | (with_reducible exact kb_bi)
  | (with_reducible exact kb_ll)
  | (with_reducible exact kb_ss)
  | ((with_reducible apply lf_isiK); with_unfolding_all decide)
  | ((with_reducible apply lf_ty); rfl)
  | ((with_reducible apply lf_bd); exact ⟨by decide, by decide⟩)
  | ((with_reducible apply lf_allO); rfl)
  | ((with_reducible apply lf_app); first | ((repeat (first | (with_reducible exact la_nil) | (with_reducible apply la_cons))); done) | rfl)
  | ((with_reducible apply lf_set); first | ((repeat (first | (with_reducible exact sl_z) | (with_reducible apply sl_s))); done) | rfl)
  | ((with_reducible apply lf_slots); first | ((repeat (first | (with_reducible exact se_nil) | (with_reducible apply se_cons) | (with_reducible apply ss_cons) | (with_reducible apply ss_nil))); done) | rfl)
  | (with_reducible exact sw_nil)
  | (with_reducible apply sw_cons)
  | ((with_reducible apply lf_wipe); rfl)
  | (with_reducible exact sr_nil)
  | (with_reducible apply sr_cons)
  | ((with_reducible apply lf_rest); rfl)
  | (with_reducible apply gr_nm)
  | (with_reducible exact gr_nil)
  | (with_reducible apply gr_cons)
  | (with_reducible apply gr_tp)
  | (with_reducible apply gr_tl)
  | ((with_reducible apply lf_run); first | (simp only [G.nm, G.tp, G.tl, G.runs, List.set_cons_succ, List.set_cons_zero]; done) | rfl)
  | ((with_reducible apply lf_len0); rfl)
  )
local macro_rules | `(tactic| wtm_at "sm") => `(tactic| first
  | ((with_reducible apply lf_smn); with_reducible assumption)
  | (with_reducible exact Smn.nat (by decide))
  | (with_reducible apply Smn.mul)
  | (with_reducible apply Smn.add)
  | (with_reducible apply Smn.sub)
  | (with_reducible apply Smn.neg)
  | (with_reducible apply Smn.ite)
  | (with_reducible apply Smn.div _ (by omega))
  | (with_reducible apply Smn.mod _ (by omega))
  | ((with_reducible refine Smn.of ?_); omega))
local macro_rules | `(tactic| wtm_at "nl") => `(tactic| first
  | (with_reducible apply ev_rng1)
  | (with_reducible apply ev_rng2)
  | (with_reducible apply nl_nil)
  | ((with_reducible apply lf_nl); first | apply nl_tN | apply nl_nil)
  | ((with_reducible apply lf_ok); rfl)
  | ((with_reducible apply lf_itm); rfl))
local macro_rules | `(tactic| wtm_at "e1") => `(tactic| first
  | (with_reducible intro _)
  | (with_reducible exact ev_c)
  | (with_reducible exact ev_args0)
  | (with_reducible exact ev_part0)
  | ((with_reducible apply ev_var); rfl)
  | ((with_reducible apply ev_varO); rfl)
  | (with_reducible apply ev_ix)
  | (with_reducible apply ev_dix)
  | (with_reducible apply ev_din)
  | (with_reducible apply ev_dnotIn)
  | (with_reducible apply ev_get1)
  | (with_reducible apply ev_get2)
  | (with_reducible apply ev_shrN)
  | (with_reducible apply ev_frzD)
  | (with_reducible exact ev_pairs0)
  | (with_reducible apply ev_pairs)
  | (with_reducible apply ev_dispK)
  | (with_reducible apply ev_sortedD)
  | (with_reducible apply ev_rev)
  | (with_reducible apply ev_cutT)
  | (with_reducible apply ev_catT)
  | (with_reducible apply ev_seqK)
  | (with_reducible apply ev_add)
  | (with_reducible apply ev_sub)
  | (with_reducible apply ev_mul)
  | (with_reducible apply ev_div)
  | (with_reducible apply ev_mod)
  | (with_reducible apply ev_neg)
  | (with_reducible apply ev_lt)
  | (with_reducible apply ev_le)
  | (with_reducible apply ev_gt)
  | (with_reducible apply ev_ge)
  | (with_reducible apply ev_eq)
  | (with_reducible apply ev_ne)
  | (with_reducible apply ev_isN)
  | (with_reducible apply ev_notN)
  | (with_reducible apply ev_args)
  | (with_reducible apply ev_tup)
  | (with_reducible apply ev_frz)
  | (with_reducible apply ev_shr)
  | (with_reducible apply ev_disp)
  | (with_reducible apply ev_blt1)
  | (with_reducible apply ev_blt2)
  | (with_reducible apply ev_un)
  | (with_reducible apply ev_and)
  | (with_reducible apply ev_or)
  | (with_reducible apply ev_not)
  | (with_reducible apply tv)
  | (with_reducible apply tt_tru)
  | (with_reducible apply tt_and)
  | (with_reducible apply tt_or)
  | (with_reducible apply tt_not)
  | (with_reducible apply ev_ofSeq)
  | (with_reducible apply ev_part)
  | (with_reducible apply ev_slice)
  | (with_reducible apply ev_compN)
  | (with_reducible exact ev_true)
  | wtm_at "nl"
  | (with_reducible apply ev_chain)
  | (with_reducible apply ev_call)
  | wtm_at "call"
  | wtm_at "leaf"
  | wtm_at "sm")
local macro_rules | `(tactic| wtm_at "ev") => `(tactic| repeat' wtm_at "e1")
local macro_rules | `(tactic| wtm_at "dec") => `(tactic| decide)
local macro_rules | `(tactic| wtm_at "s1") => `(tactic| first
  | (with_reducible exact cs_skip)
  | (with_reducible apply cs_setN)
  | (with_reducible apply cs_dputO)
  | (with_reducible apply cs_ownD)
  | (with_reducible apply cs_frzD)
  | (with_reducible apply cs_retD)
  | (with_reducible apply cs_ownN)
  | (with_reducible apply cs_frzN)
  | (with_reducible apply cs_augN)
  | (with_reducible apply ev_chgN)
  | (with_reducible apply cs_setIxN)
  | (with_reducible apply cs_drop)
  | (with_reducible apply cs_asg)
  | (with_reducible apply cs_ret)
  | wtm_at "e1")
local macro_rules | `(tactic| wtm_at "st") => `(tactic| repeat' wtm_at "s1")
local macro_rules | `(tactic| wtm_at "dz") => `(tactic| (with_reducible apply Dz.nx; · wtm_at "st"))
local macro_rules | `(tactic| wtm_at "di") => `(tactic| (with_reducible apply Dz.ite; · wtm_at "ev"))
structure DS where
  cells : List Int
  seed : Int
  ok : 0 ≤ seed ∧ seed ≤ 2147483647
def stH (s : DS) : List D := [.lst (s.cells.map D.int), .lst [.ref 0, .int s.seed]]
/-- .. more behind it -/
def stT (s : DS) (tl : List D) : List D := .lst (s.cells.map D.int) :: .lst [.ref 0, .int s.seed] :: tl
def dropZ : List Int → List Int
  | [] => []
  | c :: cs => if c = 0 then dropZ cs else c :: cs
def mixed (s : DS) : Int := (s.seed * 48271 + 12345) % 2147483647
theorem mixed_ok (s : DS) : 0 ≤ mixed s ∧ mixed s ≤ 2147483647 := by
  unfold mixed
  omega
def drawV (s : DS) (many : Int) : Int := match dropZ s.cells with
  | c :: _ => c % many
  | [] => (mixed s / 64) % many
def drawS (s : DS) (many : Int) : DS := match dropZ s.cells with
  | c :: cs => ⟨c / many :: cs, s.seed, s.ok⟩
  | [] => ⟨[], mixed s, mixed_ok s⟩
theorem drawV_nn (s : DS) {many : Int} (h : 0 < many) : 0 ≤ drawV s many := by
  unfold drawV
  split <;> exact Int.emod_nonneg _ (by omega)
theorem drawV_lt (s : DS) {many : Int} (h : 0 < many) : drawV s many < many := by
  unfold drawV
  split <;> exact Int.emod_lt_of_pos _ h
namespace Dr
noncomputable section
def lp_law_draw1 : C := (C.drop (E.chg U.popAt (E.var 2) [(E.c (.int 0))]))
@[reducible] def st_law_draw_1 : C := (C.set 2 (E.op O.ix (E.var 0) (E.c (.int 0))))
@[reducible] def st_law_draw_2 : C := (C.whl (T.and (T.val (E.op O.gt (E.blt F.len [(E.var 2)]) (E.c (.int 0)))) (T.val (E.op O.eq (E.op O.ix (E.var 2) (E.c (.int 0))) (E.c (.int 0))))) lp_law_draw1)
@[reducible] def st_law_draw_3 : C := (C.ite (T.val (E.op O.gt (E.blt F.len [(E.var 2)]) (E.c (.int 0)))) (C.seq (C.set 3 (E.op O.ix (E.var 2) (E.c (.int 0)))) (C.seq (C.setIx (E.var 2) (E.c (.int 0)) (E.op O.div (E.var 3) (E.var 1))) (C.ret (E.op O.mod (E.blt F.int1 [(E.var 3)]) (E.var 1))))) C.skip)
@[reducible] def st_law_draw_4 : C := (C.set 4 (E.op O.mod (E.blt F.int1 [(E.op O.add (E.op O.mul (E.op O.ix (E.var 0) (E.c (.int 1))) (E.c (.int 48271))) (E.c (.int 12345)))]) (E.c (.int 2147483647))))
@[reducible] def st_law_draw_5 : C := (C.setIx (E.var 0) (E.c (.int 1)) (E.var 4))
@[reducible] def st_law_draw_6 : C := (C.ret (E.op O.mod (E.blt F.int1 [(E.op O.div (E.var 4) (E.c (.int 64)))]) (E.var 1)))
def b_law_draw : C := (C.seq st_law_draw_1 (C.seq st_law_draw_2 (C.seq st_law_draw_3 (C.seq st_law_draw_4 (C.seq st_law_draw_5 st_law_draw_6)))))
def m_law_draw : Fn := fn 5 2 b_law_draw
end
theorem whl_test {tl : List D} (cs : List Int) (sl : List Sl) (X : D) (h2 : sl[2]? = some (.val (.ref 0))) (b : Bool) (hb : b = match cs with | [] => false | c :: _ => decide (c = 0)) : (T.and (T.val (E.op O.gt (E.blt F.len [(E.var 2)]) (E.c (.int 0)))) (T.val (E.op O.eq (E.op O.ix (E.var 2) (E.c (.int 0))) (E.c (.int 0))))) ⟨sl, (.lst (cs.map D.int) :: X :: tl)⟩ = some (b, ⟨sl, (.lst (cs.map D.int) :: X :: tl)⟩) := by
  have e1 : (T.val (E.op O.gt (E.blt F.len [(E.var 2)]) (E.c (.int 0)))) ⟨sl, (.lst (cs.map D.int) :: X :: tl)⟩ = some (decide ((0 : Int) < ((cs.map D.int).length : Nat)), ⟨sl, (.lst (cs.map D.int) :: X :: tl)⟩) :=
    tv (ev_gt (ev_blt1 (ev_var h2) (lf_len rfl)) ev_c)
  subst hb
  cases cs with
  | nil => exact tt_and (q := false) e1 fun h => nomatch h
  | cons c cs =>
    have e2 : (T.val (E.op O.eq (E.op O.ix (E.var 2) (E.c (.int 0))) (E.c (.int 0)))) ⟨sl, (.lst ((c :: cs).map D.int) :: X :: tl)⟩ = some (decide (c = 0), ⟨sl, (.lst ((c :: cs).map D.int) :: X :: tl)⟩) :=
      tv (ev_eq (ev_ix (ev_var h2) ev_c rfl atI_zero) ev_c eqP_int)
    have e3 := tt_and e1 fun _ => e2
    have e4 : decide ((0 : Int) < (((c :: cs).map D.int).length : Nat)) = true := decide_eq_true (by simp)
    rw [e4, Bool.true_and] at e3
    exact e3
theorem while_ev {tl : List D} (cs : List Int) (sl : List Sl) (X : D) (h2 : sl[2]? = some (.val (.ref 0))) : st_law_draw_2 ⟨sl, (.lst (cs.map D.int) :: X :: tl)⟩ = some (.nx, ⟨sl, (.lst ((dropZ cs).map D.int) :: X :: tl)⟩) := by
  induction cs with
  | nil => exact whl_f (whl_test _ _ _ h2 _ rfl)
  | cons c cs ih =>
    by_cases hc : c = 0
    · subst hc
      have e3 : lp_law_draw1 ⟨sl, (.lst ((0 :: cs).map D.int) :: X :: tl)⟩ = some (.nx, ⟨sl, (.lst (cs.map D.int) :: X :: tl)⟩) := by
        unfold lp_law_draw1
        exact cs_drop (ev_chgR (ev_var h2) rfl (ev_args ev_c ev_args0 rfl) rfl popAt0)
      exact whl_t (whl_test _ _ _ h2 true (decide_eq_true rfl).symm) e3 ih
    · have e : dropZ (c :: cs) = c :: cs := if_neg hc
      rw [e]
      exact whl_f (whl_test _ _ _ h2 false (decide_eq_false hc).symm)
theorem draw_evT (tl : List D) (s : DS) {many : Int} {m : Nat} (h : 0 < many) (hm : Smn m many) (hb : m ≤ bigN) : m_law_draw [.ref 1, .int many] (stT s tl) = some (.int (drawV s many), stT (drawS s many) tl) := by
  unfold m_law_draw stT
  have hs := s.ok
  have hseed : Smn 64 s.seed := Smn.of (by omega)
  unfold drawV drawS
  have e0 : b_law_draw ⟨slots 5 [.ref 1, .int many], (.lst (s.cells.map D.int) :: .lst [.ref 0, .int s.seed] :: tl)⟩ = (C.seq st_law_draw_3 (C.seq st_law_draw_4 (C.seq st_law_draw_5 st_law_draw_6))) ⟨[.val (.ref 1), .val (.int many), .val (.ref 0), .no, .no], (.lst ((dropZ s.cells).map D.int) :: .lst [.ref 0, .int s.seed] :: tl)⟩ := by
    unfold b_law_draw
    refine cs_nx (z1 := ⟨[.val (.ref 1), .val (.int many), .val (.ref 0), .no, .no], (.lst (s.cells.map D.int) :: .lst [.ref 0, .int s.seed] :: tl)⟩) ?_ (cs_nx (while_ev s.cells _ _ rfl) rfl)
    exact cs_set (ev_ix (ev_var rfl) ev_c rfl rfl) rfl
  cases hd : dropZ s.cells with
  | cons c cs =>
    apply fn_rtH rfl
    rw [e0, hd]
    have e1 : (T.val (E.op O.gt (E.blt F.len [(E.var 2)]) (E.c (.int 0)))) ⟨[.val (.ref 1), .val (.int many), .val (.ref 0), .no, .no], (.lst ((c :: cs).map D.int) :: .lst [.ref 0, .int s.seed] :: tl)⟩ = some (true, ⟨[.val (.ref 1), .val (.int many), .val (.ref 0), .no, .no], (.lst ((c :: cs).map D.int) :: .lst [.ref 0, .int s.seed] :: tl)⟩) := by
      have e4 : decide ((0 : Int) < (((c :: cs).map D.int).length : Nat)) = true := decide_eq_true (by simp)
      rw [← e4]
      exact tv (ev_gt (ev_blt1 (ev_var rfl) (lf_len rfl)) ev_c)
    refine cs_rt (cs_iteT e1 ?_)
    refine cs_nx (cs_set (ev_ix (ev_var rfl) ev_c rfl atI_zero) rfl) ?_
    refine cs_nx (cs_setIxR (ev_div (ev_var rfl) (ev_var rfl) h hm hb) (ev_var rfl) ev_c rfl rfl (ds' := (c / many :: cs).map D.int) setAt0) ?_
    exact cs_ret (ev_mod (ev_blt1 (ev_var rfl) lf_int1) (ev_var rfl) h) rfl
  | nil =>
    apply fn_rtH rfl
    rw [e0, hd]
    refine cs_nx (cs_iteF (tv (p := false) (by exact ev_gt (ev_blt1 (ev_var rfl) (lf_len (ds := []) rfl)) ev_c)) cs_skip) ?_
    refine cs_nx (cs_set (ev_mod (ev_blt1 (ev_add (ev_mul (ev_ix (ev_var rfl) ev_c rfl rfl) ev_c hseed (Smn.nat (by decide)) (by decide) (by decide)) ev_c) lf_int1) ev_c (by decide)) rfl) ?_
    refine cs_nx (cs_setIxR (ev_var rfl) (ev_var rfl) ev_c rfl rfl rfl) ?_
    exact cs_ret (ev_mod (ev_blt1 (ev_div (ev_var rfl) ev_c (by decide) (Smn.nat (by decide)) (by decide)) lf_int1) (ev_var rfl) h) rfl
noncomputable section
def lp_law_state1 : C := (C.set 1 (E.op O.mod (E.blt F.int1 [(E.op O.add (E.op O.mul (E.var 1) (E.c (.int 31))) (E.var 2))]) (E.c (.int 1000003))))
@[reducible] def st_law_state_2 : C := (C.for_ (I.seq (E.var 0)) (G.nm 2) lp_law_state1)
@[reducible] def st_law_state_3 : C := (C.ret (E.shr (N.disp [(E.shr (N.comp (I.seqC (E.var 0)) (G.nm 2) [2] (ret true) (E.blt F.abs [(E.var 2)]))), (E.op O.add (E.var 1) (E.c (.int 1)))])))
def b_law_state : C := (C.seq (C.set 1 (E.c (.int 7))) (C.seq st_law_state_2 st_law_state_3))
def m_law_state : Fn := fn 3 1 b_law_state
end
theorem loop_ev (it : It) (hk : it.chk = none) : ∀ (cs : List Int) (A : Sl) (a : Int) (X : Sl), 0 ≤ a → a ≤ 1000003 → N.isOwn (some X) = false → ∃ (a' : Int) (X' : Sl), 0 ≤ a' ∧ a' ≤ 1000003 ∧ N.isOwn (some X') = false ∧ C.loop it (G.nm 2) lp_law_state1 (cs.map D.int) ⟨[A, .val (.int a), X], []⟩ = some (.nx, ⟨[A, .val (.int a'), X'], []⟩)
  | [], A, a, X, h0, h1, hX => ⟨a, X, h0, h1, hX, loop_nil hk⟩
  | c :: cs, A, a, X, h0, h1, hX => by
    obtain ⟨a', X', h2, h3, h5, h4⟩ := loop_ev it hk cs A ((a * 31 + c) % 1000003) (.val (.int c)) (by omega) (by omega) rfl
    refine ⟨a', X', h2, h3, h5, loop_cons hk rfl (f := .nx) (z2 := ⟨[A, .val (.int ((a * 31 + c) % 1000003)), .val (.int c)], []⟩) ?_ h4⟩
    unfold lp_law_state1
    exact cs_set (ev_mod (ev_blt1 (ev_add (ev_mul (ev_var rfl) ev_c (Smn.of (by omega)) (Smn.nat (by decide)) (by decide) (by decide)) (ev_var rfl)) lf_int1) ev_c (by decide)) rfl
theorem comp_ev (cs : List Int) (A B X : Sl) (hX : N.isOwn (some X) = false) (hA : A = .val (.scr (cs.map D.int))) (hl : cs.length ≤ 63) : N.comp (I.seqC (E.var 0)) (G.nm 2) [2] (Mi.ret true) (E.blt F.abs [(E.var 2)]) ⟨[A, B, X], []⟩ = some ((cs.map fun i => if i < 0 then -i else i).map D.int, ⟨[A, B, X], []⟩) := by
  subst hA
  have hl2 : (cs.map D.int).length ≤ szl := by
    rw [List.length_map]
    exact Nat.le_trans hl (by decide)
  have e := ev_comp (g := G.nm 2) (vs := [2]) (tt := Mi.ret true) (te := E.blt F.abs [(E.var 2)]) (z := ⟨[.val (.scr (cs.map D.int)), B, X], []⟩) (ev_seqC (x := .scr (cs.map D.int)) (ev_var (n := 0) rfl) rfl) hl2 (by show (!N.isOwn (some X) && true) = true; rw [hX]; rfl)
    (comp_loop rfl (fun _ => true) (fun d => match d with | .int i => .int (if i < 0 then -i else i) | d => d) ⟨[.val (.scr (cs.map D.int)), B, .no], []⟩ (fun d hd => ?_) _ [] fun d hd => hd)
  · rw [e]
    have e2 : (cs.map fun i => if i < 0 then -i else i).map D.int = [] ++ ((cs.map D.int).filter fun _ => true).map (fun d => match d with | .int i => .int (if i < 0 then -i else i) | d => d) := by
      rw [List.filter_eq_self.mpr (fun _ _ => rfl), List.nil_append, List.map_map, List.map_map]
      rfl
    rw [e2]
    rfl
  · obtain ⟨i, hi, rfl⟩ := List.mem_map.mp hd
    refine ⟨⟨[.val (.scr (cs.map D.int)), B, .val (.int i)], []⟩, _, ⟨[.val (.scr (cs.map D.int)), B, .val (.int i)], []⟩, rfl, rfl, fun _ => ⟨?_, rfl⟩, fun _ => rfl, fun h => nomatch h⟩
    exact ev_blt1 (ev_var rfl) lf_abs
theorem state_ev (ns : List Int) (hl : ns.length ≤ 63) : ∃ s : DS, m_law_state [.scr (ns.map D.int)] [] = some (.ref 1, stH s) := by
  obtain ⟨a', X', h2, h3, h4⟩ := loop_ev ⟨ns.map D.int, none⟩ rfl ns (.val (.scr (ns.map D.int))) 7 .no (by decide) (by decide) rfl
  refine ⟨⟨ns.map fun i => if i < 0 then -i else i, a' + 1, by omega⟩, ?_⟩
  obtain ⟨hX, h4⟩ := h4
  unfold m_law_state
  apply fn_rtH rfl
  unfold b_law_state
  refine cs_nx (cs_set ev_c rfl) ?_
  refine cs_nx (cs_for (ev_seq (ev_var rfl) rfl) h4) ?_
  exact cs_ret (ev_shr (ev_disp (ev_args (ev_shr (comp_ev ns _ _ X' hX rfl hl)) (ev_args (ev_add (ev_var rfl) ev_c) ev_args0 rfl) rfl))) rfl
end Dr
end Mi
set_option Elab.async false
set_option linter.all false
set_option maxRecDepth 100000
namespace Mi
open PySem PySem.Spec PyProof.Rows L2 PySem.W
/-- the key of a thing that can be sorted by itself -/
def pk (d : D) : PyData := (O.toP d).getD .none
def alikeB (ps : List PyData) : Bool := ps.all fun p => ps.all fun q => alike p q
def headTup : PyData → Bool
  | .tuple (_ :: _) => true
  | _ => false
def noTup : PyData → Bool
  | .none => false
  | .tuple _ => false
  | _ => true
def sortB (ps : List PyData) : Bool := ps.all headTup || ps.all noTup
def srtOk (ps : List PyData) : Bool := alikeB ps && sortB ps && ps.all fun p => decide (p.depth ≤ 40)
theorem alikeB_ok {ps : List PyData} (h : alikeB ps = true) : AllAlike ps := fun d hd e he =>
  List.all_eq_true.mp (List.all_eq_true.mp h d hd) e he
theorem sortB_ok {ps : List PyData} (h : sortB ps = true) : PySem.W.Sortable ps := by
  unfold sortB at h
  rw [Bool.or_eq_true] at h
  rcases h with h | h
  · refine .inl fun d hd => ?_
    have q := List.all_eq_true.mp h d hd
    unfold headTup at q
    split at q
    · exact ⟨_, _, rfl⟩
    · cases q
  · refine .inr fun d hd => ?_
    have q := List.all_eq_true.mp h d hd
    constructor
    · intro e; subst e; cases q
    · intro xs e; subst e; cases q
/-- the sorted list, stable -/
def srt (k : D → PyData) (ds : List D) : List D := ds.mergeSort (dataLe false k)
theorem each_abs {T : V → D → Prop} : ∀ {us : List Value} {ds : List D}, EachIs (fun u d => ∃ x, RelV x u ∧ T x d) us ds → ∃ xs, Vals xs us ∧ EachIs T xs ds
  | _, _, .nil => ⟨[], .nil, .nil⟩
  | _, _, .cons ⟨x, r, t⟩ h => by
    obtain ⟨xs, rs, ts⟩ := each_abs h
    exact ⟨x :: xs, .cons r rs, .cons t ts⟩
section
variable {X : Cx} {Tb : Tbs}
def rowP : PyData → Bool
  | .list _ => true
  | .tuple _ => true
  | _ => false
def rprOk (p : PyData) : Bool := rowP p && p.showable && !p.hasDict && decide (p.depth ≤ 40)
def F.repr : List D → Z → Option D
  | [x], z => match O.toP (O.snap x z) with
    | some p => if rprOk p = true ∧ p.shown.length ≤ sizeLine then some (.str p.shown) else none
    | none => none
  | _, _ => none
def rRpr (K : PySem.W.Frag) : List V → Hp → VK → Prop := fun vs H Q => ∃ (x : V) (p : PyData), vs = [x] ∧ Dp K H x p ∧ rprOk p = true ∧ p.shown.length ≤ sizeLine ∧ Q (.str p.shown) H
theorem call_rpr (hu : X.A.units + 64 < cLine) (gA : X.A.guards = some []) : CallR X (.builtin "repr") (rRpr X.K) := by
  intro pn st sg Hh args raws Qq Iv rr hyp
  obtain ⟨x, p, rfl, dp, c, hz, q⟩ := hyp
  obtain ⟨u, rfl, ru⟩ : ∃ u, raws = [u] ∧ RelV x u := by
    cases rr with
    | cons r1 r2 => cases r2; exact ⟨_, rfl, r1⟩
  obtain ⟨as, rd⟩ := Dp.reads Iv p x u dp ru
  unfold rprOk at c
  rw [Bool.and_eq_true, Bool.and_eq_true, Bool.and_eq_true] at c
  obtain ⟨⟨⟨c1, c2⟩, c3⟩, c4⟩ := c
  have c4 := of_decide_eq_true c4
  have nd : p.hasDict = false := by simpa using c3
  obtain ⟨a, rfl⟩ : ∃ a, u = Value.ref a := by
    cases dp with
    | lst _ _ => exact ⟨_, ru⟩
    | tup _ _ => exact ⟨_, ru⟩
    | non => cases c1
    | bl => cases c1
    | int => cases c1
    | str => cases c1
  refine repr_of_reads' rd c2 (PyData.noDict_hsm nd) gA (by omega) (fun _ _ z => z) (fun hp t tk keep => ?_) hz
  exact ⟨.str p.shown, Hh, Iv.kept keep, ⟨t, rfl⟩, q⟩
end
end Mi
set_option Elab.async false
set_option linter.all false
set_option maxRecDepth 100000
namespace Mi
open PySem PySem.Spec PyProof.Rows L2 PySem.W
/-- the promise of a def at calls from outside any __repr__ -/
def GOk (P : Program) (w : World) (K : PySem.W.Frag) (mg : Str → Option Value) (base : Heap) (k : Nat) (f : Addr) (fd : FuncData) (ps : List Str) (sp : Sp) : Prop :=
  ∀ (A : Around) (env : List Env) (sh : Shared) (Hh : Hp) (ar : Args) (us : List Value) (xs : List V) (Qq : VK) (Ee : XK), A.guards = some [] → Room k A → Env0 P w K mg base A env sh Hh → BindsTo sh fd ar (ps.zip us) → Vals xs us →
    sp xs Hh Qq Ee → codeAny (model P w) A (.call (.ref f) ar) (CR CX0 env P w Hh sh Qq Ee) sh
/-- the law's tables of code objects, as the head leaves them: code object, table, the code's name -/
def tbs (cs : List Cs) : List (Addr × Str) := cs.map fun z => (z.p, z.q)
/-- at the head's end -/
structure CsOk (K : PySem.W.Frag) (hp : Heap) (cs : List Cs) : Prop where
  tab : ∀ z ∈ cs, hp.get? z.p = some (PySem.W.tabObj #[])
  notK : ∀ z ∈ cs, K.lookup z.p = none
  code : ∀ z ∈ cs, PySem.W.CodeHd hp z.c z.p
  one : ∀ z ∈ cs, ∀ y ∈ cs, z.p = y.p → z.q = y.q
theorem CsOk.nil {K : PySem.W.Frag} {hp : Heap} : CsOk K hp [] := ⟨(fun _ h => nomatch h), (fun _ h => nomatch h), (fun _ h => nomatch h), fun _ h => nomatch h⟩
/-- the main module's namespace of built-ins -/
def BMain (mg : Str → Option Value) (hp : Heap) : Prop := ∃ (bm : Addr) (ob : Obj), mg "__builtins__" = some (.ref bm) ∧ bm ≠ builtinsNs ∧ hp.get? bm = some ob ∧ ob.cls = .type "module" ∧ ob.dict = some builtinsNs ∧ ob.data = .plain
/-- the law's row at its call; the heap Hh in which at most the script and the tables are seen -/
theorem row_at {P : Program} {w : World} {K : PySem.W.Frag} {mg mb : Str → Option Value} {k : Nat} {fa a : Addr} {fd : FuncData} {x : Str} {sp : Sp} {sh : Shared} {us : List Value} {Hh : Hp} {cs : List Cs}
    (kin : K.In sh.heap) (nm : sh.heap.Ns mainGlobals mg) (nb : sh.heap.Ns builtinsNs mb) (nbb : ∀ y : Str, y ≠ "__name__" → mb y = bootBuiltins y) (lim : sh.heap.NoLimit) (gens : sh.gens = #[]) (ck : CsOk K sh.heap cs) (bmn : BMain mg sh.heap)
    (scr : sh.heap.get? a = some { cls := .type "list", data := .seq us.toArray }) (room : Room k callerA)
    (F : ∀ base : Heap, K.In base → base.Ns mainGlobals mg → (∀ z ∈ cs, LamX.TabB base mg z.c z.p) → GOk P w K mg base k fa fd [x] sp) (bind : ∀ (s2 : Shared) (u : Value), BindsTo s2 fd ⟨[u], []⟩ [(x, u)])
    (only : ∀ b, Hh b = none ∨ (∃ z ∈ cs, z.p = b) ∨ ∃ ob ys, Hh b = some (.frz ob ys)) (hok : HOk P w Hh sh.heap) (seen : ∀ b, Hh b ≠ none → b = a ∨ ∃ z ∈ cs, z.p = b) (new : Hh a ≠ none → K.lookup a = none) (hT : ∀ z ∈ cs, Hh z.p = some (.tbl #[])) (pr : sp [.ref a] Hh (fun v _ => v = .bl true) fun _ _ _ => False) :
    codeAny (model P w) callerA (.call (.ref fa) ⟨[.ref a], []⟩) (fun rs s2 => rs = .ok (.ret (.bool true)) ∧ OldK sh.heap s2.heap ∧ s2.os = sh.os ∧ AllBare s2.gens) sh := by
  have keeps : ∀ {b : Addr} {o : Obj}, sh.heap.get? b = some o → (∀ ys m, o.data ≠ .seq ys m) → o.data ≠ .fields #[] → (hidT sh.heap Hh).get? b = some o := by
    intro b o p n1 n2
    refine hidT_get p ?_
    cases hb : Hh b with
    | none => rfl
    | some u =>
      rcases seen b (by rw [hb]; exact Option.some_ne_none u) with rfl | ⟨z, hz, rfl⟩
      · rw [scr] at p
        cases p
        exact (n1 _ _ rfl).elim
      · rw [ck.tab z hz] at p
        cases p
        exact (n2 rfl).elim
  have nsHid : ∀ {b : Addr} {m : Str → Option Value}, sh.heap.Ns b m → (hidT sh.heap Hh).Ns b m := by
    rintro b m ⟨o, es, ep, p, dd, rr⟩
    exact ⟨o, es, ep, keeps p (fun ys n c => by rw [dd] at c; cases c) (fun c => by rw [dd] at c; cases c), dd, rr⟩
  have kinHid : K.In (hidT sh.heap Hh) := by
    intro b o lk
    refine hidT_get (kin b o lk) ?_
    cases hb : Hh b with
    | none => rfl
    | some u =>
      rcases seen b (by rw [hb]; exact Option.some_ne_none u) with rfl | ⟨z, hz, rfl⟩
      · rw [new (by rw [hb]; exact Option.some_ne_none u)] at lk
        cases lk
      · rw [ck.notK z hz] at lk
        cases lk
  have md : Mod K mg (hidT sh.heap Hh) := by
    refine ⟨kinHid, nsHid nm, ⟨mb, nsHid nb, nbb⟩, ?_⟩
    obtain ⟨mc, l1, l2⟩ := lim
    exact ⟨mc, nsHid l1, l2⟩
  have tb : ∀ z ∈ cs, LamX.TabB (hidT sh.heap Hh) mg z.c z.p := by
    intro z hz
    have hP := ck.tab z hz
    refine ⟨?_, ?_, fun c => ?_⟩
    · obtain ⟨o, fs, fl, t1, g1, t2, i1, x1, t3, q0, q1, q2, q3, qs⟩ := ck.code z hz
      refine ⟨o, fs, fl, t1, g1, t2, i1, x1, t3, keeps q0 (fun ys n c => by rw [q2] at c; cases c) (fun c => ?_), q1, q2, q3, qs⟩
      rw [q2] at c
      cases c
      simp at q3
    · obtain ⟨bm, ob, q1, q2, q3, q4, q5, q6⟩ := bmn
      refine ⟨bm, ob, q1, q2, fun c => ?_, fun c => ?_, keeps q3 (fun ys n c => by rw [q6] at c; cases c) (fun c => by rw [q6] at c; cases c), q4, q5, q6⟩
      · obtain ⟨o, es, ep, p, dd, _⟩ := nm
        rw [c, p] at q3
        cases q3
        rw [dd] at q6
        cases q6
      · rw [c, hP] at q3
        cases q3
        cases q6
    · obtain ⟨o, es, ep, p, dd, _⟩ := nm
      rw [c, hP] at p
      cases p
      cases dd
  have e0 : Env0 P w K mg (hidT sh.heap Hh) callerA [] sh Hh :=
    { frames := rfl, mod := md, bs := fun _ _ p => of_hidT p, bsz := Nat.le_of_eq (hidT_size _ _), funs := trivial, frf := fun b hb => absurd hb List.not_mem_nil, hok := hok, bare := .of_eq gens }
  have run := F _ kinHid (nsHid nm) tb callerA [] sh Hh ⟨[.ref a], []⟩ [.ref a] [.ref a] _ _ rfl room e0 (bind sh (.ref a)) (.cons rfl .nil) pr
  apply codeAny_mono run
  intro rs s2 hr
  match rs, hr with
  | .error e, hr => exact False.elim hr
  | .ok .next, hr => exact False.elim hr
  | .ok .brk, hr => exact False.elim hr
  | .ok .cont, hr => exact False.elim hr
  | .ok (.ret u), ⟨v, H2, os, bare, un, hok2, rv, q⟩ =>
    have q : v = .bl true := q
    subst q
    have rv : u = Value.bool true := rv
    subst rv
    have grow : ∀ z ∈ cs, ∃ vs : Array Value, s2.heap.get? z.p = some (PySem.W.tabObj vs) := by
      intro z hz
      obtain ⟨vs, e⟩ := un.tbls z.p #[] (hT z hz)
      exact ⟨_, hok2 z.p _ e⟩
    have same : ∀ {b : Addr} {o : Obj}, (¬ ∃ z ∈ cs, z.p = b) → sh.heap.get? b = some o → s2.heap.get? b = some o := by
      intro b o nz p
      rcases only b with c | c | ⟨ob, ys, c⟩
      · exact un.keep b o p c (fun z => absurd z List.not_mem_nil) List.not_mem_nil
      · exact absurd c nz
      · have p1 := (hok b _ c).1
        have p2 := (hok2 b _ (un.frzs b ob _ c)).1
        rw [p] at p1
        cases p1
        exact p2
    refine ⟨rfl, ⟨fun b o p => ?_, fun b o p => ?_⟩, os, bare⟩
    · by_cases c : ∃ z ∈ cs, z.p = b
      · obtain ⟨z, hz, rfl⟩ := c
        obtain ⟨vs, e⟩ := grow z hz
        rw [ck.tab z hz] at p
        cases p
        exact .inr (.inl ⟨((ck.code z hz).tab (ck.tab z hz)).isCodeTable, rfl, #[], vs, rfl, by simpa using e⟩)
      · exact .inl (same c p)
    · by_cases c : ∃ z ∈ cs, z.p = b
      · obtain ⟨z, hz, rfl⟩ := c
        obtain ⟨vs, e⟩ := grow z hz
        exact ⟨_, e⟩
      · exact ⟨o, same c p⟩
theorem row_call {P : Program} {w : World} {K : PySem.W.Frag} {mg mb : Str → Option Value} {k : Nat} {fa a : Addr} {fd : FuncData} {x : Str} {sp : Sp} {sh : Shared} {us : List Value} {ns : List Int} {cs : List Cs}
    (kin : K.In sh.heap) (nm : sh.heap.Ns mainGlobals mg) (nb : sh.heap.Ns builtinsNs mb) (nbb : ∀ y : Str, y ≠ "__name__" → mb y = bootBuiltins y) (lim : sh.heap.NoLimit) (gens : sh.gens = #[]) (ck : CsOk K sh.heap cs) (bmn : BMain mg sh.heap)
    (scr : sh.heap.get? a = some { cls := .type "list", data := .seq us.toArray }) (iar : IntsAre us ns) (short : ns.length ≤ sizeLine) (room : Room k callerA)
    (F : ∀ base : Heap, K.In base → base.Ns mainGlobals mg → (∀ z ∈ cs, LamX.TabB base mg z.c z.p) → GOk P w K mg base k fa fd [x] sp) (bind : ∀ (s2 : Shared) (u : Value), BindsTo s2 fd ⟨[u], []⟩ [(x, u)])
    (pr : ∀ Hh : Hp, (∀ z ∈ cs, Hh z.p = some (.tbl #[])) → SqL K Hh a (ns.map V.int) → sp [.ref a] Hh (fun v _ => v = .bl true) fun _ _ _ => False) :
    codeAny (model P w) callerA (.call (.ref fa) ⟨[.ref a], []⟩) (fun rs s2 => rs = .ok (.ret (.bool true)) ∧ OldK sh.heap s2.heap ∧ s2.os = sh.os ∧ AllBare s2.gens) sh := by
  have rv := L2.vals_ints iar
  have nl : (ns.map V.int).length ≤ sizeLine := by rw [List.length_map]; exact short
  have aT : ¬ ∃ z ∈ cs, z.p = a := by
    rintro ⟨z, hz, rfl⟩
    have := ck.tab z hz
    rw [scr] at this
    cases this
  classical
  cases hk : K.lookup a with
  | some o =>
    have p := kin a o hk
    rw [scr] at p
    cases p
    have ul : us.toArray.size ≤ sizeLine := by rw [List.size_toArray, iar.length]; exact short
    have rv2 : Vals (ns.map V.int) us.toArray.toList := by simpa using rv
    let Ht : Hp := fun b => if ∃ z ∈ cs, z.p = b then some (.tbl #[]) else none
    have hT : ∀ z ∈ cs, Ht z.p = some (.tbl #[]) := fun z hz => if_pos ⟨z, hz, rfl⟩
    have off : ∀ {b : Addr}, (¬ ∃ z ∈ cs, z.p = b) → Ht b = none := fun c => if_neg c
    refine row_at (cs := cs) kin nm nb nbb lim gens ck bmn scr room F bind (Hh := Ht) (fun b => ?_) (fun b u e => ?_) (fun b e => ?_) (fun e => absurd (off aT) e) hT (pr _ hT (.inr ⟨_, us.toArray, _, hk, rfl, rfl, rfl, ul, rv2⟩))
    · by_cases c : ∃ z ∈ cs, z.p = b
      · exact .inr (.inl c)
      · exact .inl (off c)
    · by_cases c : ∃ z ∈ cs, z.p = b
      · obtain ⟨z, hz, rfl⟩ := c
        rw [hT z hz] at e
        cases e
        exact ck.tab z hz
      · rw [off c] at e
        cases e
    · by_cases c : ∃ z ∈ cs, z.p = b
      · exact .inr c
      · exact absurd (off c) e
  | none =>
    let Hs : Hp := fun b => if b = a then some (.frz { cls := .type "list", data := .seq us.toArray } (.lst (ns.map V.int))) else if ∃ z ∈ cs, z.p = b then some (.tbl #[]) else none
    have atA : Hs a = some (.frz { cls := .type "list", data := .seq us.toArray } (.lst (ns.map V.int))) := if_pos rfl
    have hT : ∀ z ∈ cs, Hs z.p = some (.tbl #[]) := fun z hz => (if_neg fun c => aT ⟨z, hz, c⟩).trans (if_pos ⟨z, hz, rfl⟩)
    have off : ∀ {b : Addr}, b ≠ a → (¬ ∃ z ∈ cs, z.p = b) → Hs b = none := fun n c => (if_neg n).trans (if_neg c)
    refine row_at (cs := cs) kin nm nb nbb lim gens ck bmn scr room F bind (Hh := Hs) (fun b => ?_) (fun b u e => ?_) (fun b e => ?_) (fun _ => hk) hT (pr Hs hT (.inl (.inr ⟨_, atA⟩)))
    · by_cases hb : b = a
      · subst hb; exact .inr (.inr ⟨_, _, atA⟩)
      · by_cases c : ∃ z ∈ cs, z.p = b
        · exact .inr (.inl c)
        · exact .inl (off hb c)
    · by_cases hb : b = a
      · subst hb
        rw [atA] at e
        cases e
        exact ⟨scr, nl, us, _, rv, scr⟩
      · by_cases c : ∃ z ∈ cs, z.p = b
        · obtain ⟨z, hz, rfl⟩ := c
          rw [hT z hz] at e
          cases e
          exact ck.tab z hz
        · rw [off hb c] at e
          cases e
    · by_cases hb : b = a
      · exact .inl hb
      · by_cases c : ∃ z ∈ cs, z.p = b
        · exact .inr c
        · exact absurd (off hb c) e
/-- a def's promise, as one from outside any __repr__ -/
theorem FnOk.g {P : Program} {w : World} {K : PySem.W.Frag} {mg : Str → Option Value} {base : Heap} {k : Nat} {f : Addr} {fd : FuncData} {ps : List Str} {sp : Sp} (h : FnOk P w K mg base CX0 k f fd ps sp) : GOk P w K mg base k f fd ps sp :=
  fun A env sh Hh ar us xs Qq Ee _ room e0 bd rx hsp => h.run A env sh Hh ar us xs Qq Ee room e0 bd rx hsp
end Mi
set_option Elab.async false
set_option linter.all false
set_option maxRecDepth 100000
namespace Mi
open PySem L2
/-- c runs to an end of which Φ holds -/
def Dz (c : C) (z : Z) (Φ : Fl → Z → Prop) : Prop := ∃ f z', c z = some (f, z') ∧ Φ f z'
section
variable {a b c : C} {z z1 : Z} {Φ Ψ : Fl → Z → Prop}
theorem Dz.of {f : Fl} (h : c z = some (f, z1)) (q : Φ f z1) : Dz c z Φ := ⟨f, z1, h, q⟩
theorem Dz.imp (h : Dz c z Ψ) (k : ∀ f z1, Ψ f z1 → Φ f z1) : Dz c z Φ := by
  obtain ⟨f, z1, e, q⟩ := h
  exact ⟨f, z1, e, k f z1 q⟩
theorem Dz.nx (h : a z = some (.nx, z1)) (k : Dz b z1 Φ) : Dz (C.seq a b) z Φ := by
  obtain ⟨f, z2, e, q⟩ := k
  exact ⟨f, z2, cs_nx h e, q⟩
theorem Dz.rt {d : D} (h : a z = some (.rt d, z1)) (q : Φ (.rt d) z1) : Dz (C.seq a b) z Φ := ⟨_, _, cs_rt h, q⟩
/-- behind a: on, or out -/
def onTo (b : C) (Φ : Fl → Z → Prop) : Fl → Z → Prop := fun f z => match f with
  | .nx => Dz b z Φ
  | f => Φ f z
theorem Dz.seq (h : Dz a z (onTo b Φ)) : Dz (C.seq a b) z Φ := by
  obtain ⟨f, z1, e, q⟩ := h
  cases f with
  | nx =>
    obtain ⟨f, z2, e2, q⟩ := (show Dz b z1 Φ from q)
    exact ⟨f, z2, cs_nx e e2, q⟩
  | rt d => exact ⟨_, _, cs_rt e, q⟩
  | bk => exact ⟨_, _, cs_bk e, q⟩
  | ct => exact ⟨_, _, cs_ct e, q⟩
theorem Dz.ite {t : M Bool} {p : Bool} (h : t z = some (p, z1)) (hT : p = true → Dz a z1 Φ) (hF : p = false → Dz b z1 Φ) : Dz (C.ite t a b) z Φ := by
  cases p with
  | true =>
    obtain ⟨f, z2, e, q⟩ := hT rfl
    exact ⟨f, z2, cs_iteT h e, q⟩
  | false =>
    obtain ⟨f, z2, e, q⟩ := hF rfl
    exact ⟨f, z2, cs_iteF h e, q⟩
theorem Dz.skip (q : Φ .nx z) : Dz C.skip z Φ := ⟨_, _, cs_skip, q⟩
theorem Dz.brk (q : Φ .bk z) : Dz C.brk z Φ := ⟨_, _, rfl, q⟩
theorem Dz.cnt (q : Φ .ct z) : Dz C.cnt z Φ := ⟨_, _, rfl, q⟩
/-- the end of a turn -/
def turn (I : Z → Prop) (Φ : Fl → Z → Prop) : Fl → Z → Prop := fun f z => match f with
  | .nx => I z
  | .ct => I z
  | .bk => Φ .nx z
  | .rt d => Φ (.rt d) z
theorem Dz.loop {it : It} {g : G} (hk : it.chk = none) (I : List D → Z → Prop) (step : ∀ d ds z, I (d :: ds) z → ∃ z1, g.run d z = some z1 ∧ Dz b z1 (turn (I ds) Φ)) (fin : ∀ z, I [] z → Φ .nx z) : ∀ (ds : List D) (z : Z), I ds z → Dz (C.loop it g b ds) z Φ
  | [], z, h => ⟨_, _, loop_nil hk, fin z h⟩
  | d :: ds, z, h => by
    obtain ⟨z1, e1, f, z2, e2, q⟩ := step d ds z h
    cases f with
    | nx =>
      obtain ⟨f, z3, e3, q3⟩ := Dz.loop hk I step fin ds z2 q
      exact ⟨f, z3, loop_cons hk e1 e2 e3, q3⟩
    | ct =>
      obtain ⟨f, z3, e3, q3⟩ := Dz.loop hk I step fin ds z2 q
      exact ⟨f, z3, loop_cons hk e1 e2 e3, q3⟩
    | bk => exact ⟨_, _, loop_cons hk e1 e2 rfl, q⟩
    | rt d => exact ⟨_, _, loop_cons hk e1 e2 rfl, q⟩
theorem Dz.for_ {mi : M It} {it : It} {g : G} (h : mi z = some (it, z1)) (hk : it.chk = none) (I : List D → Z → Prop) (h0 : I it.items z1) (step : ∀ d ds z, I (d :: ds) z → ∃ z1, g.run d z = some z1 ∧ Dz b z1 (turn (I ds) Φ)) (fin : ∀ z, I [] z → Φ .nx z) : Dz (C.for_ mi g b) z Φ := by
  obtain ⟨f, z2, e, q⟩ := Dz.loop hk I step fin it.items z1 h0
  exact ⟨f, z2, cs_for h e, q⟩
theorem rg_len (a : Int) (n : Nat) : (I.irng a n).length = n := by unfold I.irng; rw [List.length_map, List.length_range]
theorem rg_get {a : Int} {n k : Nat} (h : k < n) : (I.irng a n)[k]? = some (.int (a + k)) := by
  unfold I.irng
  rw [List.getElem?_map, List.getElem?_range h]
  rfl
theorem drop_cons {α : Type} {l ds : List α} {d : α} {k : Nat} (h : l.drop k = d :: ds) : k < l.length ∧ l[k]? = some d ∧ ds = l.drop (k + 1) := by
  have h1 : k < l.length := by
    have := congrArg List.length h
    rw [List.length_drop, List.length_cons] at this
    omega
  rw [List.drop_eq_getElem_cons h1] at h
  injection h with h2 h3
  exact ⟨h1, by rw [List.getElem?_eq_getElem h1, h2], h3.symm⟩
/-- for over a range, by an invariant over the turns made -/
theorem Dz.rng {mi : M It} {g : G} {a : Int} {n : Nat} (h : mi z = some (⟨I.irng a n, none⟩, z1)) (I : Nat → Z → Prop) (h0 : I 0 z1) (step : ∀ k z, k < n → I k z → ∃ z1, g.run (.int (a + k)) z = some z1 ∧ Dz b z1 (turn (I (k + 1)) Φ)) (fin : ∀ z, I n z → Φ .nx z) : Dz (C.for_ mi g b) z Φ := by
  refine Dz.for_ h rfl (fun ds z => ∃ k, k ≤ n ∧ ds = (Mi.I.irng a n).drop k ∧ I k z) ⟨0, Nat.zero_le _, rfl, h0⟩ ?_ ?_
  · rintro d ds z ⟨k, hk, hd, hI⟩
    obtain ⟨h1, h2, h3⟩ := drop_cons hd.symm
    rw [rg_len] at h1
    rw [rg_get h1] at h2
    cases h2
    obtain ⟨z2, e, q⟩ := step k z h1 hI
    exact ⟨z2, e, q.imp fun f z3 r => by
      cases f with
      | nx => exact ⟨k + 1, h1, h3, r⟩
      | ct => exact ⟨k + 1, h1, h3, r⟩
      | bk => exact r
      | rt d => exact r⟩
  · rintro z ⟨k, hk, hd, hI⟩
    have : n ≤ k := by
      have := congrArg List.length hd
      rw [List.length_drop, rg_len] at this
      simp at this
      omega
    have : k = n := by omega
    subst this
    exact fin z hI
/-- while, by a measure -/
theorem Dz.whl {t : M Bool} (I : Nat → Z → Prop) (step : ∀ n z, I n z → ∃ p z1, t z = some (p, z1) ∧ (p = true → Dz b z1 (turn (fun z2 => ∃ m, m < n ∧ I m z2) Φ)) ∧ (p = false → Φ .nx z1)) : ∀ (n : Nat) (z : Z), I n z → Dz (C.whl t b) z Φ := by
  intro n
  induction n using Nat.strongRecOn with
  | ind n ih =>
    intro z h
    obtain ⟨p, z1, e, hT, hF⟩ := step n z h
    cases p with
    | false => exact ⟨_, _, whl_f e, hF rfl⟩
    | true =>
      obtain ⟨f, z2, e2, q⟩ := hT rfl
      cases f with
      | nx =>
        obtain ⟨m, hm, q⟩ := q
        obtain ⟨f, z3, e3, q3⟩ := ih m hm z2 q
        exact ⟨f, z3, whl_t e e2 e3, q3⟩
      | ct =>
        obtain ⟨m, hm, q⟩ := q
        obtain ⟨f, z3, e3, q3⟩ := ih m hm z2 q
        refine ⟨f, z3, ?_, q3⟩
        rw [C.whl, e]
        dsimp only
        rw [e2]
        exact e3
      | bk => exact ⟨_, _, whl_bk e e2, q⟩
      | rt d => exact ⟨_, _, whl_rt e e2, q⟩
/-- a def by its body -/
theorem Dz.fn {n k : Nat} {ds h : List D} {R : D → List D → Prop} (hl : ds.length = k) (hb : Dz c ⟨slots n ds, h⟩ fun f z => match f with | .nx => R .non z.h | .rt d => R d z.h | _ => False) : ∃ d h', fn n k c ds h = some (d, h') ∧ R d h' := by
  obtain ⟨f, z', e, q⟩ := hb
  cases f with
  | nx => exact ⟨.non, z'.h, by unfold Mi.fn; rw [if_pos hl, e], q⟩
  | rt d => exact ⟨d, z'.h, by unfold Mi.fn; rw [if_pos hl, e], q⟩
  | bk => exact q.elim
  | ct => exact q.elim
end
end Mi
set_option Elab.async false
set_option linter.all false
set_option maxRecDepth 100000
set_option maxHeartbeats 2000000
namespace Mi
open PySem L2
local macro_rules | `(tactic| wtm_at "leaf") => `(tactic| first
  | ((with_reducible apply lf_cont); rfl)
  | (with_reducible exact atI_zero)
  | ((with_reducible apply lf_dcont); rfl)
  | ((with_reducible apply lf_dcS); rfl)
  | ((with_reducible apply lf_dgetC); rfl)
  | ((with_reducible apply lf_keyD); rfl)
  | ((with_reducible apply lf_isDict); rfl)
  | ((with_reducible apply lf_dkeys); rfl)
  | ((with_reducible apply lf_atI); first | rfl | exact atI_zero)
  | ((with_reducible apply lf_get); rfl)
  | ((with_reducible apply lf_pure); rfl)
  | ((with_reducible apply lf_setAt); rfl)
  | ((with_reducible apply lf_tru); rfl)
  | ((with_reducible apply lf_lt); exact Nat.le_of_ble_eq_true rfl)
  | ((with_reducible apply lf_pos); first | assumption | decide | omega)
  | ((with_reducible apply lf_le); decide)
  | ((with_reducible apply lf_isNm); rfl)
  | ((with_reducible apply lf_notNm); rfl)
  | ((with_reducible apply lf_noScr); rfl)
  | ((with_reducible apply lf_noKt); rfl)
  | (with_reducible exact eqP_int)
  | (with_reducible exact lf_abs)
  | (with_reducible exact lf_int1)
  | (with_reducible exact lf_max2)
  | (with_reducible exact lf_min2)
  | (with_reducible apply lf_len)
  | (with_reducible apply lf_tuple)
  | (with_reducible apply lf_isi)
  | (with_reducible exact eqP_t3)
  | (with_reducible exact eqP_bl)
  | (with_reducible exact eqP_t2)
  | (with_reducible exact kb_tt)
  | (with_reducible exact kb_bb)
  | (with_reducible exact kb_ii)
  | (with_reducible exact kb_it)
  | (with_reducible exact kb_ib)
  | (with_reducible exact kb_bi)
  | (with_reducible exact kb_ll)
  | (with_reducible exact kb_ss)
  | ((with_reducible apply lf_isiK); with_unfolding_all decide)
  | ((with_reducible apply lf_ty); rfl)
  | ((with_reducible apply lf_bd); exact ⟨by decide, by decide⟩)
  | ((with_reducible apply lf_allO); rfl)
  | ((with_reducible apply lf_app); first | ((repeat (first | (with_reducible exact la_nil) | (with_reducible apply la_cons))); done) | rfl)
  | ((with_reducible apply lf_set); first | ((repeat (first | (with_reducible exact sl_z) | (with_reducible apply sl_s))); done) | rfl)
  | ((with_reducible apply lf_slots); first | ((repeat (first | (with_reducible exact se_nil) | (with_reducible apply se_cons) | (with_reducible apply ss_cons) | (with_reducible apply ss_nil))); done) | rfl)
  | (with_reducible exact sw_nil)
  | (with_reducible apply sw_cons)
  | ((with_reducible apply lf_wipe); rfl)
  | (with_reducible exact sr_nil)
  | (with_reducible apply sr_cons)
  | ((with_reducible apply lf_rest); rfl)
  | (with_reducible apply gr_nm)
  | (with_reducible exact gr_nil)
  | (with_reducible apply gr_cons)
  | (with_reducible apply gr_tp)
  | (with_reducible apply gr_tl)
  | ((with_reducible apply lf_run); first | (simp only [G.nm, G.tp, G.tl, G.runs, List.set_cons_succ, List.set_cons_zero]; done) | rfl)
  | ((with_reducible apply lf_len0); rfl)
  )
local macro_rules | `(tactic| wtm_at "sm") => `(tactic| first
  | ((with_reducible apply lf_smn); with_reducible assumption)
  | (with_reducible exact Smn.nat (by decide))
  | (with_reducible apply Smn.mul)
  | (with_reducible apply Smn.add)
  | (with_reducible apply Smn.sub)
  | (with_reducible apply Smn.neg)
  | (with_reducible apply Smn.ite)
  | (with_reducible apply Smn.div _ (by omega))
  | (with_reducible apply Smn.mod _ (by omega))
  | ((with_reducible refine Smn.of ?_); omega))
local macro_rules | `(tactic| wtm_at "nl") => `(tactic| first
  | (with_reducible apply ev_rng1)
  | (with_reducible apply ev_rng2)
  | (with_reducible apply nl_nil)
  | ((with_reducible apply lf_nl); first | apply nl_tN | apply nl_nil)
  | ((with_reducible apply lf_ok); rfl)
  | ((with_reducible apply lf_itm); rfl))
local macro_rules | `(tactic| wtm_at "e1") => `(tactic| first
  | (with_reducible intro _)
  | (with_reducible exact ev_c)
  | (with_reducible exact ev_args0)
  | (with_reducible exact ev_part0)
  | ((with_reducible apply ev_var); rfl)
  | ((with_reducible apply ev_varO); rfl)
  | (with_reducible apply ev_ix)
  | (with_reducible apply ev_dix)
  | (with_reducible apply ev_din)
  | (with_reducible apply ev_dnotIn)
  | (with_reducible apply ev_get1)
  | (with_reducible apply ev_get2)
  | (with_reducible apply ev_shrN)
  | (with_reducible apply ev_frzD)
  | (with_reducible exact ev_pairs0)
  | (with_reducible apply ev_pairs)
  | (with_reducible apply ev_dispK)
  | (with_reducible apply ev_sortedD)
  | (with_reducible apply ev_rev)
  | (with_reducible apply ev_cutT)
  | (with_reducible apply ev_catT)
  | (with_reducible apply ev_seqK)
  | (with_reducible apply ev_add)
  | (with_reducible apply ev_sub)
  | (with_reducible apply ev_mul)
  | (with_reducible apply ev_div)
  | (with_reducible apply ev_mod)
  | (with_reducible apply ev_neg)
  | (with_reducible apply ev_lt)
  | (with_reducible apply ev_le)
  | (with_reducible apply ev_gt)
  | (with_reducible apply ev_ge)
  | (with_reducible apply ev_eq)
  | (with_reducible apply ev_ne)
  | (with_reducible apply ev_isN)
  | (with_reducible apply ev_notN)
  | (with_reducible apply ev_args)
  | (with_reducible apply ev_tup)
  | (with_reducible apply ev_frz)
  | (with_reducible apply ev_shr)
  | (with_reducible apply ev_disp)
  | (with_reducible apply ev_blt1)
  | (with_reducible apply ev_blt2)
  | (with_reducible apply ev_un)
  | (with_reducible apply ev_and)
  | (with_reducible apply ev_or)
  | (with_reducible apply ev_not)
  | (with_reducible apply tv)
  | (with_reducible apply tt_tru)
  | (with_reducible apply tt_and)
  | (with_reducible apply tt_or)
  | (with_reducible apply tt_not)
  | (with_reducible apply ev_ofSeq)
  | (with_reducible apply ev_part)
  | (with_reducible apply ev_slice)
  | (with_reducible apply ev_compN)
  | (with_reducible exact ev_true)
  | wtm_at "nl"
  | (with_reducible apply ev_chain)
  | (with_reducible apply ev_call)
  | wtm_at "call"
  | wtm_at "leaf"
  | wtm_at "sm")
local macro_rules | `(tactic| wtm_at "ev") => `(tactic| repeat' wtm_at "e1")
local macro_rules | `(tactic| wtm_at "dec") => `(tactic| decide)
local macro_rules | `(tactic| wtm_at "s1") => `(tactic| first
  | (with_reducible exact cs_skip)
  | (with_reducible apply cs_setN)
  | (with_reducible apply cs_dputO)
  | (with_reducible apply cs_ownD)
  | (with_reducible apply cs_frzD)
  | (with_reducible apply cs_retD)
  | (with_reducible apply cs_ownN)
  | (with_reducible apply cs_frzN)
  | (with_reducible apply cs_augN)
  | (with_reducible apply ev_chgN)
  | (with_reducible apply cs_setIxN)
  | (with_reducible apply cs_drop)
  | (with_reducible apply cs_asg)
  | (with_reducible apply cs_ret)
  | wtm_at "e1")
local macro_rules | `(tactic| wtm_at "st") => `(tactic| repeat' wtm_at "s1")
local macro_rules | `(tactic| wtm_at "dz") => `(tactic| (with_reducible apply Dz.nx; · wtm_at "st"))
local macro_rules | `(tactic| wtm_at "di") => `(tactic| (with_reducible apply Dz.ite; · wtm_at "ev"))
/-- a row: how far it is read, what stands in it -/
structure TS where
  pos : Int
  cells : List Int
  ok : 1 ≤ pos
def takeV (t : TS) (many : Int) : Int := if t.pos < t.cells.length + 1 then t.cells.getD (t.pos - 1).toNat 0 % many else 0
def takeS (t : TS) : TS := if t.pos < t.cells.length + 1 then ⟨t.pos + 1, t.cells, by have := t.ok; omega⟩ else t
theorem takeV_nn (t : TS) {many : Int} (h : 0 < many) : 0 ≤ takeV t many := by
  unfold takeV
  split
  · exact Int.emod_nonneg _ (by omega)
  · decide
theorem takeV_lt (t : TS) {many : Int} (h : 0 < many) : takeV t many < many := by
  unfold takeV
  split
  · exact Int.emod_lt_of_pos _ h
  · exact h
end Mi
set_option Elab.async false
set_option linter.all false
set_option maxRecDepth 100000
namespace Mi
open PySem L2
/-- d can be shown: its depth, its weight -/
def Rep (d : D) (dep wt : Nat) : Prop := ∃ p, O.toP d = some p ∧ p.showable = true ∧ p.hasDict = false ∧ p.depth ≤ dep ∧ p.leavesShort 12 = true ∧ p.weight ≤ wt
def RepAll (ds : List D) (dep wt : Nat) : Prop := ∃ ps, O.toPs ds = some ps ∧ ps.length = ds.length ∧ PyData.showableAll ps = true ∧ PyData.hasDictAll ps = false ∧ PyData.depthAll ps ≤ dep ∧ PyData.leavesShortAll 12 ps = true ∧ PyData.weightAll ps ≤ ds.length * (wt + 1)
theorem Rep.mono {d : D} {a b w v : Nat} (h : Rep d a w) (h1 : a ≤ b) (h2 : w ≤ v) : Rep d b v := by
  obtain ⟨p, e, h3, h4, h5, h6, h7⟩ := h
  exact ⟨p, e, h3, h4, by omega, h6, by omega⟩
theorem Rep.int {i : Int} (h : -1000000000 ≤ i ∧ i ≤ 1000000000) : Rep (.int i) 0 40 := by
  have h1 : i.natAbs < 10 ^ 10 := by omega
  refine ⟨.int i, rfl, ?_, by simp [PyData.hasDict], by simp [PyData.depth], ?_, ?_⟩
  · simp only [PyData.showable, decide_eq_true_eq]
    have h2 : i.natAbs < 2 ^ 40 := by omega
    by_cases h0 : i.natAbs = 0
    · rw [h0]; decide
    · have := (Nat.log2_lt h0).mpr h2
      omega
  · have q := int_text_length_le10 (a := i) (k := 10) (by decide) h1
    rw [PyData.leavesShort]
    apply decide_eq_true
    show (Str.ofString (toString i)).length ≤ 12
    rw [ofString_length]
    omega
  · simp only [PyData.weight]
    split
    · omega
    · rename_i c
      have h0 : i.natAbs ≠ 0 := by simpa using c
      have h2 : i.natAbs < 2 ^ 39 := by omega
      have := (Nat.log2_lt h0).mpr h2
      omega
theorem Rep.non : Rep .non 0 0 := ⟨.none, rfl, by simp [PyData.showable], by simp [PyData.hasDict], by simp [PyData.depth], by simp [PyData.leavesShort], by simp [PyData.weight]⟩
theorem RepAll.of {dep wt : Nat} : ∀ {ds : List D}, (∀ d ∈ ds, Rep d dep wt) → RepAll ds dep wt
  | [], _ => ⟨[], rfl, rfl, by simp [PyData.showableAll], by simp [PyData.hasDictAll], by simp [PyData.depthAll], by simp [PyData.leavesShortAll], by simp [PyData.weightAll]⟩
  | d :: ds, h => by
    obtain ⟨p, e, h3, h4, h5, h6, h7⟩ := h d List.mem_cons_self
    obtain ⟨ps, e', g2, g3, g4, g5, g6, g7⟩ := RepAll.of (ds := ds) fun x hx => h x (List.mem_cons_of_mem _ hx)
    refine ⟨p :: ps, ?_, by simp [g2], by simp [PyData.showableAll, h3, g3], by simp [PyData.hasDictAll, h4, g4], ?_, by simp [PyData.leavesShortAll, h6, g6], ?_⟩
    · rw [O.toPs, e, e']
    · simp only [PyData.depthAll]; omega
    · simp only [PyData.weightAll, List.length_cons, Nat.add_mul, Nat.one_mul]; omega
theorem Rep.tup {ds : List D} {dep wt n : Nat} (h : ∀ d ∈ ds, Rep d dep wt) (hn : ds.length ≤ n) : Rep (.tup ds) (dep + 1) (n * (wt + 1)) := by
  obtain ⟨ps, e', g2, g3, g4, g5, g6, g7⟩ := RepAll.of h
  have := Nat.mul_le_mul_right (wt + 1) hn
  exact ⟨.tuple ps, by rw [O.toP, e']; rfl, by simpa [PyData.showable] using g3, by simpa [PyData.hasDict] using g4, by simp only [PyData.depth]; omega, by simpa [PyData.leavesShort] using g6, by simp only [PyData.weight]; omega⟩
theorem Rep.lst {ds : List D} {dep wt n : Nat} (h : ∀ d ∈ ds, Rep d dep wt) (hn : ds.length ≤ n) : Rep (.lst ds) (dep + 1) (n * (wt + 1)) := by
  obtain ⟨ps, e', g2, g3, g4, g5, g6, g7⟩ := RepAll.of h
  have := Nat.mul_le_mul_right (wt + 1) hn
  exact ⟨.list ps, by rw [O.toP, e']; rfl, by simpa [PyData.showable] using g3, by simpa [PyData.hasDict] using g4, by simp only [PyData.depth]; omega, by simpa [PyData.leavesShort] using g6, by simp only [PyData.weight]; omega⟩
/-- what repr says -/
def shw (d : D) : Str := match O.toP d with
  | some p => p.shown
  | none => ""
def isRow : D → Bool
  | .tup _ => true
  | .lst _ => true
  | _ => false
theorem repr_ev {x d : D} {z : Z} (hs : O.snap x z = d) (h : Rep d 40 1000000) (hr : isRow d = true) : F.repr [x] z = some (.str (shw d)) := by
  obtain ⟨p, e, h3, h4, h5, h6, h7⟩ := h
  have hrow : rowP p = true := by
    cases d with
    | tup ds =>
      rw [O.toP] at e
      cases hp : O.toPs ds with
      | none => rw [hp] at e; cases e
      | some q => rw [hp] at e; cases e; rfl
    | lst ds =>
      rw [O.toP] at e
      cases hp : O.toPs ds with
      | none => rw [hp] at e; cases e
      | some q => rw [hp] at e; cases e; rfl
    | _ => cases hr
  have hw : shw d = p.shown := by unfold shw; rw [e]
  rw [hw]
  show (match O.toP (O.snap x z) with | some p => if rprOk p = true ∧ p.shown.length ≤ sizeLine then some (D.str p.shown) else none | none => none) = _
  rw [hs, e]
  dsimp only
  rw [if_pos]
  refine ⟨?_, PyData.shown_fits (B := 12) (by decide) (by decide) h6 (by omega)⟩
  unfold rprOk
  rw [hrow, h3, h4, decide_eq_true h5]
  rfl
end Mi
set_option Elab.async false
set_option linter.all false
set_option maxRecDepth 100000
namespace Mi
open PySem PySem.Spec PyProof.Rows L2
section
variable {κ α : Type} [DecidableEq κ]
def getG (kvs : List (κ × α)) (k : κ) : Option α := (kvs.find? fun kv => decide (kv.1 = k)).map (·.2)
def putG (kvs : List (κ × α)) (k : κ) (v : α) : List (κ × α) := if (kvs.any fun kv => decide (kv.1 = k)) = true then kvs.map (fun kv => if kv.1 = k then (kv.1, v) else kv) else kvs ++ [(k, v)]
def dropG (kvs : List (κ × α)) (k : κ) : List (κ × α) := kvs.filter fun kv => decide (kv.1 ≠ k)
end
def keyD : D → Option Key
  | .int i => some (.inl i)
  | .str s => some (.inr s)
  | _ => none
def keyDs : List D → Option (List Key)
  | [] => some []
  | d :: ds => match keyD d, keyDs ds with
    | some k, some ks => some (k :: ks)
    | _, _ => none
def keyT : D → Option (List Key)
  | .tup ds => keyDs ds
  | _ => none
/-- a dict's content -/
def dcont (x : D) (z : Z) : Option D := match x with
  | .dk kvs => some (.dk kvs)
  | .dt kvs => some (.dt kvs)
  | .ref n => match z.h[n]? with
    | some (.dk kvs) => some (.dk kvs)
    | some (.dt kvs) => some (.dt kvs)
    | _ => none
  | .own i => match z.s[i]? with
    | some (.own (.dk kvs)) => some (.dk kvs)
    | some (.own (.dt kvs)) => some (.dt kvs)
    | _ => none
  | _ => none
def dgetC (c key : D) : Option (Option D) := match c with
  | .dk kvs => match keyD key with
    | some k => some (getG kvs k)
    | none => none
  | .dt kvs => match keyT key with
    | some k => some (getG kvs k)
    | none => none
  | _ => none
def dputC (c key v : D) : Option D := match c with
  | .dk kvs => match keyD key with
    | some k => if kvs.length < szl then some (.dk (putG kvs k v)) else none
    | none => none
  | .dt kvs => match keyT key with
    | some k => if kvs.length < szl then some (.dt (putG kvs k v)) else none
    | none => none
  | _ => none
def dget (x key : D) (z : Z) : Option (Option D) := match dcont x z with
  | some c => dgetC c key
  | none => none
namespace O
def dix (x y : D) (z : Z) : Option D := match dget x y z with
  | some o => o
  | none => none
def din (x y : D) (z : Z) : Option D := match dget y x z with
  | some o => some (.bl o.isSome)
  | none => none
def dnotIn (x y : D) (z : Z) : Option D := match dget y x z with
  | some o => some (.bl (!o.isSome))
  | none => none
end O
namespace E
/-- d.get(k) -/
def get1 (a b : M D) : M D := bnd a fun x z => if (dcont x z).isSome = true then bnd b (fun y z => match dget x y z with
  | some o => some (o.getD .non, z)
  | none => none) z else none
def get2 (a b c : M D) : M D := bnd a fun x z => if (dcont x z).isSome = true then bnd b (fun y => bnd c fun w z => if isPure w = true then match dget x y z with
  | some o => some (o.getD w, z)
  | none => none
  else none) z else none
/-- .. joins the shared heap -/
def shrN (m : M D) : M D := bnd m fun d z => some (.ref z.h.length, ⟨z.s, z.h ++ [d]⟩)
end E
namespace C
def dput (a k e : M D) : C := bnd e fun v => bnd a fun x => bnd k fun y z => if isPure v = true then match x with
    | .own i => match z.s[i]? with
      | some (.own c) => match dputC c y v with
        | some c' => some (.nx, ⟨z.s.set i (.own c'), z.h⟩)
        | none => none
      | _ => none
    | .ref n => match z.h[n]? with
      | some c => match dputC c y v with
        | some c' => some (.nx, ⟨z.s, z.h.set n c'⟩)
        | none => none
      | _ => none
    | _ => none
  else none
/-- the slot owns a new object -/
def ownN (i : Nat) (m : M D) : C := bnd m fun d z => if i < z.s.length then some (.nx, ⟨z.s.set i (.own d), z.h⟩) else none
def isDict : D → Bool
  | .dk _ => true
  | .dt _ => true
  | _ => false
/-- the slot's dict is not changed any more -/
def frzD (i : Nat) : C := fun z => match z.s[i]? with
  | some (.own d) => if isDict d = true then some (.nx, ⟨z.s.set i (.val d), z.h⟩) else none
  | _ => none
/-- return the slot's own dict -/
def retD (e : M D) : C := bnd e fun d z => match d with
  | .own i => match z.s[i]? with
    | some (.own d) => if isDict d = true then some (.rt d, ⟨z.s.set i .no, z.h⟩) else none
    | _ => none
  | _ => none
end C
def Rk (K : Kx) (F : Hp) (rho : List Addr) {κ : Type} (kvs : List (κ × D)) (es : List (κ × V)) : Prop := es.map Prod.fst = kvs.map Prod.fst ∧ Rps K F rho (kvs.map Prod.snd) (es.map Prod.snd)
section
variable {K : Kx} {F : Hp} {rho : List Addr} {κ : Type} [DecidableEq κ]
theorem Rk.length {kvs : List (κ × D)} {es : List (κ × V)} (r : Rk K F rho kvs es) : es.length = kvs.length := by
  have := congrArg List.length r.1
  simpa using this
theorem Rk.uncons {p : κ × D} {kvs : List (κ × D)} {es : List (κ × V)} (r : Rk K F rho (p :: kvs) es) : ∃ v es', es = (p.1, v) :: es' ∧ Rp K F rho p.2 v ∧ Rk K F rho kvs es' := by
  obtain ⟨h1, h2⟩ := r
  cases es with
  | nil => simp at h1
  | cons e es =>
    obtain ⟨k, v⟩ := e
    simp only [List.map_cons, List.cons.injEq] at h1
    simp only [List.map_cons] at h2
    cases h2 with
    | cons a b => exact ⟨v, es, by rw [← h1.1], a, h1.2, b⟩
theorem Rk.cons {k : κ} {d : D} {v : V} {kvs : List (κ × D)} {es : List (κ × V)} (a : Rp K F rho d v) (r : Rk K F rho kvs es) : Rk K F rho ((k, d) :: kvs) ((k, v) :: es) :=
  ⟨by simp only [List.map_cons, r.1], by simp only [List.map_cons]; exact .cons a r.2⟩
theorem Rk.nil : Rk K F rho ([] : List (κ × D)) [] := ⟨rfl, .nil⟩
theorem Rk.get (k : κ) : ∀ {kvs : List (κ × D)} {es : List (κ × V)}, Rk K F rho kvs es → (getG kvs k = none ∧ valV es k = none) ∨ ∃ d v, getG kvs k = some d ∧ valV es k = some v ∧ Rp K F rho d v
  | [], es, r => by
    have := r.length
    cases es with
    | nil => exact .inl ⟨rfl, rfl⟩
    | cons _ _ => simp at this
  | (j, d) :: kvs, es, r => by
    obtain ⟨v, es', rfl, h1, h2⟩ := r.uncons
    by_cases c : j = k
    · exact .inr ⟨d, v, by simp [getG, List.find?_cons, c], valV_pos c, h1⟩
    · have e1 : getG ((j, d) :: kvs) k = getG kvs k := by simp [getG, List.find?_cons, c]
      rw [e1, valV_neg c]
      exact Rk.get k h2
theorem any_keys (k : κ) {kvs : List (κ × D)} {es : List (κ × V)} (r : Rk K F rho kvs es) : (es.any fun kv => decide (kv.1 = k)) = kvs.any fun kv => decide (kv.1 = k) := by
  have e1 : (es.any fun kv => decide (kv.1 = k)) = (es.map Prod.fst).any fun j => decide (j = k) := by rw [List.any_map]; rfl
  have e2 : (kvs.any fun kv => decide (kv.1 = k)) = (kvs.map Prod.fst).any fun j => decide (j = k) := by rw [List.any_map]; rfl
  rw [e1, e2, r.1]
theorem Rk.repl (k : κ) {d : D} {v : V} (h : Rp K F rho d v) : ∀ {kvs : List (κ × D)} {es : List (κ × V)}, Rk K F rho kvs es → Rk K F rho (kvs.map fun kv => if kv.1 = k then (kv.1, d) else kv) (es.map fun kv => if kv.1 = k then (kv.1, v) else kv)
  | [], es, r => by
    have := r.length
    cases es with
    | nil => exact .nil
    | cons _ _ => simp at this
  | (j, d0) :: kvs, es, r => by
    obtain ⟨v0, es', rfl, h1, h2⟩ := r.uncons
    rw [List.map_cons, List.map_cons]
    dsimp only
    by_cases c : j = k
    · rw [if_pos c, if_pos c]
      exact .cons h (Rk.repl k h h2)
    · rw [if_neg c, if_neg c]
      exact .cons h1 (Rk.repl k h h2)
theorem Rk.append {kvs kvs2 : List (κ × D)} {es es2 : List (κ × V)} (r : Rk K F rho kvs es) (r2 : Rk K F rho kvs2 es2) : Rk K F rho (kvs ++ kvs2) (es ++ es2) :=
  ⟨by rw [List.map_append, List.map_append, r.1, r2.1], by rw [List.map_append, List.map_append]; exact r.2.append r2.2⟩
theorem Rk.put (k : κ) {d : D} {v : V} (h : Rp K F rho d v) {kvs : List (κ × D)} {es : List (κ × V)} (r : Rk K F rho kvs es) : Rk K F rho (putG kvs k d) (putK es k v) := by
  unfold putG putK
  rw [any_keys k r]
  split
  · exact r.repl k h
  · exact r.append (.cons h .nil)
theorem Rk.drop (k : κ) : ∀ {kvs : List (κ × D)} {es : List (κ × V)}, Rk K F rho kvs es → Rk K F rho (dropG kvs k) (dropK es k)
  | [], es, r => by
    have := r.length
    cases es with
    | nil => exact .nil
    | cons _ _ => simp at this
  | (j, d0) :: kvs, es, r => by
    obtain ⟨v0, es', rfl, h1, h2⟩ := r.uncons
    have ih := Rk.drop k h2
    unfold dropG dropK at ih ⊢
    rw [List.filter_cons, List.filter_cons]
    by_cases c : j = k
    · simpa [c] using ih
    · have e1 : (decide ((j, d0).1 ≠ k)) = true := decide_eq_true c
      have e2 : (decide ((j, v0).1 ≠ k)) = true := decide_eq_true c
      rw [if_pos e1, if_pos e2]
      exact .cons h1 ih
end
section
variable {K : Kx} {B : Bs} {F : Hp} {rho : List Addr} {om : Nat → Option Addr} {z : Z} {σ : L2.St} {H : Hp}
theorem keyD_ok {d : D} {v : V} {k : Key} (r : Rp K F rho d v) (e : keyD d = some k) : v = kV k := by
  cases r <;> first | (cases e; rfl) | cases e
theorem keyDs_ok : ∀ {ds : List D} {vs : List V} {k : List Key}, Rps K F rho ds vs → keyDs ds = some k → vs = k.map kV
  | [], _, _, .nil, e => by cases e; rfl
  | d :: ds, _, k, .cons r q, e => by
    rw [keyDs] at e
    split at e
    · rename_i k0 ks h1 h2
      cases e
      rw [keyD_ok r h1, keyDs_ok q h2]
      rfl
    · cases e
theorem keyT_ok {d : D} {v : V} {k : List Key} (r : Rp K F rho d v) (e : keyT d = some k) : ∃ b, v = .ref b ∧ F b = some (.tup (k.map kV)) := by
  cases r with
  | tup h q =>
    rw [← keyDs_ok q e]
    exact ⟨_, rfl, h⟩
  | _ => cases e
/-- a dict, read -/
theorem dcont_ok (R : Rl K B F rho om z σ H) {d c : D} {v : V} (r : Rv K F rho om d v) (e : dcont d z = some c) :
    ∃ a, v = .ref a ∧ ((∃ kvs es, c = .dk kvs ∧ Rd H a (.dK es) ∧ Rk K F rho kvs es) ∨ ∃ kvs es, c = .dt kvs ∧ Rd H a (.dT es) ∧ Rk K F rho kvs es) := by
  cases r with
  | pure r =>
    cases r with
    | @dk a es kvs o h k q =>
      cases e
      exact ⟨a, rfl, .inl ⟨kvs, es, rfl, .inr ⟨o, R.rh.fro _ _ h⟩, k, q⟩⟩
    | @dt a es kvs o h k q =>
      cases e
      exact ⟨a, rfl, .inr ⟨kvs, es, rfl, .inr ⟨o, R.rh.fro _ _ h⟩, k, q⟩⟩
    | @ref n a h =>
      unfold dcont at e
      dsimp only at e
      split at e
      · rename_i kvs hx
        cases e
        obtain ⟨es, h1, h2, h3⟩ := R.rh.obs n _ a hx h
        exact ⟨a, rfl, .inl ⟨kvs, es, rfl, .inl h1, h2, h3⟩⟩
      · rename_i kvs hx
        cases e
        obtain ⟨es, h1, h2, h3⟩ := R.rh.obs n _ a hx h
        exact ⟨a, rfl, .inr ⟨kvs, es, rfl, .inl h1, h2, h3⟩⟩
      · cases e
    | _ => cases e
  | @own i a h =>
    unfold dcont at e
    dsimp only at e
    split at e
    · rename_i kvs hx
      cases e
      obtain ⟨a', h1, _, es, h2, h3, h4⟩ := R.sl i _ hx
      rw [h] at h1
      cases h1
      exact ⟨a, rfl, .inl ⟨kvs, es, rfl, .inl h2, h3, h4⟩⟩
    · rename_i kvs hx
      cases e
      obtain ⟨a', h1, _, es, h2, h3, h4⟩ := R.sl i _ hx
      rw [h] at h1
      cases h1
      exact ⟨a, rfl, .inr ⟨kvs, es, rfl, .inl h2, h3, h4⟩⟩
    · cases e
theorem dget_ok (R : Rl K B F rho om z σ H) {x y : D} {xv yv : V} {o : Option D} (rx : Rv K F rho om x xv) (ry : Rv K F rho om y yv) (e : dget x y z = some o) :
    ∃ a, xv = .ref a ∧ ((o = none ∧ DGet H a yv none) ∨ ∃ d v, o = some d ∧ DGet H a yv (some v) ∧ Rp K F rho d v) := by
  unfold dget at e
  cases hc : dcont x z with
  | none => rw [hc] at e; cases e
  | some c =>
    rw [hc] at e
    dsimp only at e
    obtain ⟨a, rfl, h⟩ := dcont_ok R rx hc
    refine ⟨a, rfl, ?_⟩
    have pk : ∀ {k : Key}, keyD y = some k → yv = kV k := fun {k} hk => by
      cases ry with
      | pure ry => exact keyD_ok ry hk
      | own _ => cases hk
    have pt : ∀ {k : List Key}, keyT y = some k → ∃ b, yv = .ref b ∧ H b = some (.tup (k.map kV)) := fun {k} hk => by
      cases ry with
      | pure ry =>
        obtain ⟨b, e1, e2⟩ := keyT_ok ry hk
        exact ⟨b, e1, R.rh.fro _ _ e2⟩
      | own _ => cases hk
    rcases h with ⟨kvs, es, rfl, h1, h2⟩ | ⟨kvs, es, rfl, h1, h2⟩
    · unfold dgetC at e
      dsimp only at e
      cases hk : keyD y with
      | none => rw [hk] at e; cases e
      | some k =>
        rw [hk] at e
        cases e
        rcases h2.get k with ⟨e1, e2⟩ | ⟨d, v, e1, e2, e3⟩
        · exact .inl ⟨e1, .inl ⟨es, k, h1, pk hk, e2.symm⟩⟩
        · exact .inr ⟨d, v, e1, .inl ⟨es, k, h1, pk hk, e2.symm⟩, e3⟩
    · unfold dgetC at e
      dsimp only at e
      cases hk : keyT y with
      | none => rw [hk] at e; cases e
      | some k =>
        rw [hk] at e
        cases e
        obtain ⟨b, eb, hb⟩ := pt hk
        rcases h2.get k with ⟨e1, e2⟩ | ⟨d, v, e1, e2, e3⟩
        · exact .inl ⟨e1, .inr ⟨es, k, b, h1, eb, hb, e2.symm⟩⟩
        · exact .inr ⟨d, v, e1, .inr ⟨es, k, b, h1, eb, hb, e2.symm⟩, e3⟩
end
section
variable {X : Cx} {Tb : Tbs}
theorem dix_go {K : Kx} {ma mb : M D} : ∀ σ H Q, Te K (E.op O.dix ma mb) σ H Q → tDGet (Te K ma) (Te K mb) σ H Q := by
  rintro σ H Q ⟨B, F, rho, om, z, g⟩
  refine (g.bnd.imp fun _ _ H1 _ _ xv _ _ _ _ _ ⟨F2, rho2, z2, x2, eg1, s1, p1, r1, g1⟩ => ?_).tx (R := rV K)
  refine (g1.bnd.imp fun _ _ H2 _ _ yv _ _ _ _ _ ⟨F3, rho3, z3, y3, eg2, s2, p2, r2, g2⟩ => ?_).tx (R := rV K)
  obtain ⟨R, d, z4, e, k⟩ := g2
  dsimp only at e
  split at e
  · cases e
  · rename_i d' hd
    cases e
    unfold O.dix at hd
    split at hd
    · rename_i o ho
      subst hd
      obtain ⟨a, rfl, h⟩ := dget_ok R (r1.mono s2 p2) r2 ho
      rcases h with ⟨h, _⟩ | ⟨d2, v, h, h2, h3⟩
      · cases h
      · cases h
        exact ⟨a, v, rfl, h2, k F3 rho3 H2 v (Same.refl _) (List.prefix_refl _) R (.pure h3)⟩
    · cases hd
theorem me_dix {a b : Expr} {pos : Pos} {ma mb : M D} (hu : X.A.units + 64 < cLine) (ha : PE X a (Te (kx X Tb) ma)) (hb : PE X b (Te (kx X Tb) mb)) (hs : NoSl b := by exact fun _ _ => rfl) : PE X (.Subscript a b pos) (Te (kx X Tb) (E.op O.dix ma mb)) :=
  pe_imp (pe_dget (by omega) ha hb hs) dix_go
theorem isD_ok {K : Kx} {B : Bs} {F : Hp} {rho : List Addr} {om : Nat → Option Addr} {z : Z} {σ : L2.St} {H : Hp} {x : D} {v : V} (R : Rl K B F rho om z σ H) (r : Rv K F rho om x v) (h : (dcont x z).isSome = true) : ∃ a, v = .ref a ∧ IsD H a := by
  cases hc : dcont x z with
  | none => rw [hc] at h; cases h
  | some c =>
    obtain ⟨a, rfl, q⟩ := dcont_ok R r hc
    rcases q with ⟨kvs, es, _, q, _⟩ | ⟨kvs, es, _, q, _⟩
    · exact ⟨a, rfl, .inl ⟨es, q⟩⟩
    · exact ⟨a, rfl, .inr ⟨es, q⟩⟩
theorem get2_go {K : Kx} {ma mb mc : M D} : ∀ σ H Q, Te K (E.get2 ma mb mc) σ H Q → tDGet2 (Te K ma) (Te K mb) (Te K mc) σ H Q := by
  rintro σ H Q ⟨B, F, rho, om, z, g⟩
  refine (g.bnd.imp fun _ _ H1 _ _ xv _ _ _ _ _ ⟨F2, rho2, z2, x2, eg1, s1, p1, r1, g1⟩ => ?_).tx (R := rV K)
  obtain ⟨R, d, z4, e, k⟩ := g1
  dsimp only at e
  split at e
  · rename_i hd
    obtain ⟨a, rfl, hi⟩ := isD_ok R r1 hd
    refine ⟨a, rfl, hi, ?_⟩
    have g2 : Go K (rV K) B F2 rho2 om (bnd mb fun y => bnd mc fun w z => if isPure w = true then match dget x2 y z with | some o => some (o.getD w, z) | none => none else none) z2 σ H1 Q := ⟨R, d, z4, e, k⟩
    refine (g2.bnd.imp fun _ _ H2 _ _ yv _ _ _ _ _ ⟨F3, rho3, z3, y3, eg2, s2, p2, r2, g3⟩ => ?_).tx (R := rV K)
    refine (g3.bnd.imp fun _ _ H4 _ _ wv _ _ _ _ _ ⟨F5, rho5, z5, w5, eg5, s5, p5, r5, g5⟩ => ?_).tx (R := rV K)
    obtain ⟨R3, d3, z6, e3, k3⟩ := g5
    dsimp only at e3
    split at e3
    · rename_i hw
      split at e3
      · rename_i o ho
        cases e3
        obtain ⟨a2, ea, h⟩ := dget_ok R3 ((r1.mono s2 p2).mono s5 p5) (r2.mono s5 p5) ho
        cases ea
        rcases h with ⟨rfl, h⟩ | ⟨d2, v, rfl, h2, h3⟩
        · exact ⟨none, h, k3 F5 rho5 H4 _ (Same.refl _) (List.prefix_refl _) R3 r5⟩
        · exact ⟨some v, h2, k3 F5 rho5 H4 _ (Same.refl _) (List.prefix_refl _) R3 (.pure h3)⟩
      · cases e3
    · cases e3
  · cases e
theorem me_get2 {o e f : Expr} {apos cpos : Pos} {ma mb mc : M D} (hu : X.A.units + 64 < cLine) (ha : PE X o (Te (kx X Tb) ma)) (hb : PE X e (Te (kx X Tb) mb)) (hc : PE X f (Te (kx X Tb) mc)) (m : M2 X o "get" apos e f cpos := by exact ⟨rfl, rfl, rfl, rfl⟩) : PE X (.Call (.Attribute o "get" apos) [e, f] [] cpos) (Te (kx X Tb) (E.get2 ma mb mc)) :=
  pe_imp (pe_dget2 (by omega) ha hb hc m) get2_go
abbrev rN (K : Kx) : RelT D V := fun B F rho om H d v => ∃ p, v = .ref p ∧ Fresh K B F rho om H p ∧ Ob K F rho H p d
abbrev Tn (K : Kx) (m : M D) : TE := Tx K (rN K) m
theorem mn_dnewT {pos : Pos} : PE X (.Dict [] [] pos) (Tn (kx X Tb) (ret (.dt []))) := by
  refine pe_imp pe_dnewT fun σ H Q ⟨B, F, rho, om, z, R, d, z', e, k⟩ => ?_
  cases e
  intro p hp
  obtain ⟨R2, f2⟩ := R.new (o := .dT []) hp
  exact k F rho _ _ (Same.refl _) (List.prefix_refl _) R2 ⟨p, rfl, f2, [], upd_same, rfl, .nil⟩
theorem ownN_go {K : Kx} {i : Nat} {m : M D} {te : TE} (h : ∀ σ H Q, Tn K m σ H Q → te σ H Q) : ∀ D σ H, Ts K (C.ownN i m) D σ H → tAsg te (gName i) D σ H := by
  rintro D σ H ⟨B, F, rho, om, z, R, f, z', e, k⟩
  obtain ⟨d, z1, e1, e2⟩ := bnd_some e
  refine h σ H _ ⟨B, F, rho, om, z, R, d, z1, e1, fun F1 rho1 H1 v s p R1 ⟨a, hv, f0, r1⟩ => ?_⟩
  subst hv
  try dsimp only at e2
  split at e2
  · rename_i hl
    cases e2
    exact k F1 rho1 _ _ H1 s p (R1.setOwn i hl f0 r1)
  · cases e2
theorem ms_ownN {i : Nat} {x : Str} {e : Expr} {m : M D} {pos pos' : Pos} (hN : X.N.Nodup) (he : PE X e (Tn (kx X Tb) m)) (hi : X.N[i]? = some x := by rfl) (hx : Loc X.env.scope x := by first | exact Or.inl rfl | exact Or.inr rfl)
    (hs : swapsWith e (some (.Name x pos')) pos.line X.env = pure false := by rfl) (hf : X.fn x = true ∨ X.env.scope.names.lookup x = some .local := by first | exact .inl rfl | exact .inr rfl) : PS X (.Assign [.Name x pos'] e pos) (Ts (kx X Tb) (C.ownN i m)) :=
  ps_imp (ps_set hN hi hx he hs hf) (ownN_go fun _ _ _ h => h)
theorem dput_rel {K : Kx} {F : Hp} {rho : List Addr} {H : Hp} {a : Addr} {c c' y v : D} {yv vv : V} (fro : Same F H) (ob : Ob K F rho H a c) (ry : Rp K F rho y yv) (rv : Rp K F rho v vv) (e : dputC c y v = some c') :
    ∃ o, DPut H a yv vv (upd H a o) ∧ Ob K F rho (upd H a o) a c' := by
  unfold dputC at e
  split at e
  · rename_i kvs
    obtain ⟨es, h1, h2, h3⟩ := ob
    split at e
    · rename_i k hk
      split at e
      · rename_i hz
        cases e
        have r := Rk.put (K := K) (F := F) (rho := rho) k rv ⟨h2, h3⟩
        refine ⟨_, .inl ⟨es, k, h1, keyD_ok ry hk, ?_, rfl⟩, _, upd_same, r.1, r.2⟩
        rw [Rk.length (K := K) (F := F) (rho := rho) ⟨h2, h3⟩]
        exact szl_ok hz
      · cases e
    · cases e
  · rename_i kvs
    obtain ⟨es, h1, h2, h3⟩ := ob
    split at e
    · rename_i k hk
      split at e
      · rename_i hz
        cases e
        have r := Rk.put (K := K) (F := F) (rho := rho) k rv ⟨h2, h3⟩
        obtain ⟨b, eb, hb⟩ := keyT_ok ry hk
        refine ⟨_, .inr ⟨es, k, b, h1, eb, fro _ _ hb, ?_, rfl⟩, _, upd_same, r.1, r.2⟩
        rw [Rk.length (K := K) (F := F) (rho := rho) ⟨h2, h3⟩]
        exact szl_ok hz
      · cases e
    · cases e
  · cases e
theorem dput_pure {c y v c' : D} (h : dputC c y v = some c') : isPure y = true := by
  unfold dputC at h
  cases y <;> first | rfl | (split at h <;> first | cases h | (split at h <;> first | cases h | (rename_i hk; cases hk)))
theorem ms_dput {o i e : Expr} {ma mk me : M D} {p pos : Pos} (hu : X.A.units + 64 < cLine) (he : PE X e (Te (kx X Tb) me)) (ha : PE X o (Te (kx X Tb) ma)) (hk : PE X i (Te (kx X Tb) mk)) (hs : swapsWith e (some (.Subscript o i p)) pos.line X.env = pure false := by rfl) :
    PS X (.Assign [.Subscript o i p] e pos) (Ts (kx X Tb) (C.dput ma mk me)) := by
  refine ps_imp (ps_dput (by omega) ha hk he hs) fun D σ H ⟨B, F, rho, om, z, R, f, z', e, k⟩ => ?_
  obtain ⟨d, z1, e1, e2⟩ := bnd_some e
  refine ⟨B, F, rho, om, z, R, d, z1, e1, fun F1 rho1 H1 v s1 p1 R1 r1 => ?_⟩
  obtain ⟨x, z2, e3, e4⟩ := bnd_some e2
  refine ⟨B, F1, rho1, om, z1, R1, x, z2, e3, fun F2 rho2 H2 w s2 p2 R2 r2 => ?_⟩
  obtain ⟨y, z3, e5, e6⟩ := bnd_some e4
  refine ⟨B, F2, rho2, om, z2, R2, y, z3, e5, fun F3 rho3 H3 u s3 p3 R3 r3 => ?_⟩
  try dsimp only at e6
  split at e6
  · rename_i hp
    have rd : Rp (kx X Tb) F3 rho3 d v := ((r1.of_pure hp).mono s2 p2).mono s3 p3
    have r2' := r2.mono s3 p3
    split at e6
    · rename_i j
      cases r2' with
      | pure r2' => cases r2'
      | own h =>
        split at e6
        · rename_i c hc
          split at e6
          · rename_i c' hd
            cases e6
            obtain ⟨a', h1, h5, h2⟩ := R3.sl _ _ hc
            rw [h] at h1
            cases h1
            obtain ⟨o, q1, q2⟩ := dput_rel R3.rh.fro h2 (r3.of_pure (dput_pure hd)) rd hd
            exact ⟨_, _, rfl, q1, k F3 rho3 _ _ _ ((s1.trans s2).trans s3) ((p1.trans p2).trans p3) (R3.mutOwn h hc q2)⟩
          · cases e6
        · cases e6
    · rename_i n
      cases r2' with
      | pure r2' =>
        cases r2' with
        | ref h =>
          split at e6
          · rename_i c hc
            split at e6
            · rename_i c' hd
              cases e6
              obtain ⟨o, q1, q2⟩ := dput_rel R3.rh.fro (R3.rh.obs n _ _ hc h) (r3.of_pure (dput_pure hd)) rd hd
              exact ⟨_, _, rfl, q1, k F3 rho3 _ _ _ ((s1.trans s2).trans s3) ((p1.trans p2).trans p3) (R3.mutRef h q2)⟩
            · cases e6
          · cases e6
    · cases e6
  · cases e6
end
end Mi
set_option Elab.async false
set_option linter.all false
set_option maxRecDepth 100000
namespace Mi
open PySem PySem.Spec PyProof.Rows L2 PySem.W
namespace E
def frzD (m : M D) : M D := bnd m fun d => if C.isDict d = true then Mi.ret d else fun _ => none
end E
section
variable {K : Kx} {B : Bs} {F : Hp} {rho : List Addr} {om : Nat → Option Addr} {z : Z} {σ : L2.St} {H : Hp} {p : Addr}
theorem ob_dict {d : D} (h : Ob K F rho H p d) (hd : C.isDict d = true) : ∃ u, H p = some u ∧ Mut (some u) ∧ NT u ∧ ∀ {F' : Hp} {rho' : List Addr} (o : Obj), Same F F' → rho <+: rho' → F' p = some (.frz o u) → Rp K F' rho' d (.ref p) := by
  cases d <;> try (cases hd; done)
  · obtain ⟨es, h1, h2, h3⟩ := h
    exact ⟨_, h1, trivial, (fun _ e => nomatch e), fun o s q e => .dk e h2 (h3.mono s q)⟩
  · obtain ⟨es, h1, h2, h3⟩ := h
    exact ⟨_, h1, trivial, (fun _ e => nomatch e), fun o s q e => .dt e h2 (h3.mono s q)⟩
/-- an object of nobody's, locked, is laid down -/
theorem Rl.lock (R : Rl K B F rho om z σ H) (f : Fresh K B F rho om H p) {u : HO} (o : Obj) : ∃ F', Rl K B F' rho om z σ (upd H p (.frz o u)) ∧ Same F F' ∧ F' p = some (.frz o u) := by
  obtain ⟨R1, f1⟩ := R.mutFresh (o := .frz o u) f
  obtain ⟨R2, s2⟩ := R1.lay f1 upd_same
  exact ⟨_, R2, s2, upd_same⟩
end
section
variable {X : Cx} {Tb : Tbs}
theorem pss_lk {st : List Stmt} {t : L2.TS} (h : PSs X st t) : PSs X st fun D σ H => ∃ d u, H d = some u ∧ Mut (some u) ∧ ∀ od, t D σ (upd H d (.frz od u)) := by
  refine ⟨fun pins s σ H D I hw => ?_⟩
  obtain ⟨d, u, hd, mu, q⟩ := hw
  obtain ⟨od, I2⟩ := I.lock hd mu
  exact h.run pins s σ _ D I2 (q od)
theorem mss_frzD {rest : List Stmt} {b : C} (i : Nat) (h : PSs X rest (Ts (kx X Tb) b)) : PSs X rest (Ts (kx X Tb) (C.seq (C.frzD i) b)) := by
  refine pss_imp (pss_lk h) fun D σ H ⟨B, F, rho, om, z, R, f, z', e, k⟩ => ?_
  unfold C.seq C.frzD at e
  cases hs : z.s[i]? with
  | none =>
    rw [hs] at e
    cases e
  | some x =>
    cases x with
    | own d =>
      rw [hs] at e
      dsimp only at e
      by_cases hd : C.isDict d = true
      · rw [if_pos hd] at e
        have e : b ⟨z.s.set i (.val d), z.h⟩ = some (f, z') := e
        obtain ⟨a, h1, h2, h3⟩ := R.sl i _ hs
        have f0 := R.freshOwn h1
        obtain ⟨u, q1, mu, _, r2⟩ := ob_dict h3 hd
        refine ⟨a, u, q1, mu, fun od => ?_⟩
        obtain ⟨F3, R3, s3, q3⟩ := (R.forget i).lock (u := u) f0 od
        have hσ : σ.set i (some (V.ref a)) = σ := by
          refine List.ext_getElem? fun j => ?_
          by_cases c : j = i
          · subst c
            rw [h2, List.getElem?_set_self (List.getElem?_eq_some_iff.mp h2).1]
          · rw [List.getElem?_set_ne (Ne.symm c)]
        have R4 := R3.setVal i (r2 od s3 (List.prefix_refl _) q3)
        rw [hσ] at R4
        have ez : (⟨(z.s.set i Sl.no).set i (.val d), z.h⟩ : Z) = ⟨z.s.set i (.val d), z.h⟩ := by rw [List.set_set]
        have R4 : Rl (kx X Tb) B _ rho (omSet (omSet om i none) i none) ⟨(z.s.set i Sl.no).set i (.val d), z.h⟩ σ _ := R4
        rw [ez] at R4
        exact ⟨B, _, rho, _, _, R4, f, z', e, k.mono s3 (List.prefix_refl _)⟩
      · rw [if_neg hd] at e
        cases e
    | _ =>
      rw [hs] at e
      cases e
end
namespace E
def pairs : List (M D × M D) → M (List (Key × D))
  | [] => Mi.ret []
  | (a, b) :: r => bnd a fun x => bnd b fun y => bnd (pairs r) fun ps => match keyD x with
    | some k => if isPure y = true then Mi.ret ((k, y) :: ps) else fun _ => none
    | none => fun _ => none
end E
def mergeG {κ α : Type} [DecidableEq κ] (kvs more : List (κ × α)) : List (κ × α) := more.foldl (fun acc kv => putG acc kv.1 kv.2) kvs
namespace N
def dispK (prs : List (M D × M D)) : M D := bnd (E.pairs prs) fun ps => Mi.ret (.dk (mergeG [] ps))
end N
theorem Rk.mono {K : Kx} {F F' : Hp} {rho rho' : List Addr} {κ : Type} {kvs : List (κ × D)} {es : List (κ × V)} (s : Same F F') (p : rho <+: rho') (r : Rk K F rho kvs es) : Rk K F' rho' kvs es := ⟨r.1, r.2.mono s p⟩
def dkey : Key → D
  | .inl i => .int i
  | .inr s => .str s
inductive KeyV (H : Hp) : V → D → Prop
  | k (k : Key) : KeyV H (kV k) (dkey k)
  | t (ks : List Key) {q : Addr} : H q = some (.tup (ks.map kV)) → KeyV H (.ref q) (.tup (ks.map dkey))
/-- the keys, as values -/
def dkeys : D → Option (List D)
  | .dk kvs => some (kvs.map fun e => dkey e.1)
  | .dt kvs => some (kvs.map fun e => .tup (e.1.map dkey))
  | _ => none
def rSrtD (K : PySem.W.Frag) : List V → Hp → VK → Prop := fun vs H Q => ∃ (a : Addr) (o : Obj) (ks : List D), vs = [V.ref a] ∧
  ((∃ kvs : List (Key × V), H a = some (.frz o (.dK kvs)) ∧ ks = kvs.map fun e => dkey e.1) ∨ ∃ kvs : List (List Key × V), H a = some (.frz o (.dT kvs)) ∧ ks = kvs.map fun e => .tup (e.1.map dkey)) ∧
  AllAlike (ks.map pk) ∧ PySem.W.Sortable (ks.map pk) ∧ (∀ d ∈ ks, (pk d).depth ≤ 40) ∧ ks.length ≤ sizeLine ∧ ∀ ys p, EachIs (KeyV H) ys (srt pk ks) → H p = none → Q (.ref p) (upd H p (.lst ys))
theorem toP_key (k : Key) : O.toP (dkey k) = some (pk (dkey k)) := by
  cases k <;> rfl
theorem dp_key {K : PySem.W.Frag} {H : Hp} (k : Key) : Dp K H (kV k) (pk (dkey k)) := by
  cases k with
  | inl i => exact .int i
  | inr s => exact .str s
theorem dp_keys {K : PySem.W.Frag} {H : Hp} : ∀ (ks : List Key), DpAll K H (ks.map kV) (ks.map fun k => pk (dkey k))
  | [] => .nil
  | k :: ks => .cons (dp_key k) (dp_keys ks)
theorem toPs_keys : ∀ (ks : List Key), O.toPs (ks.map dkey) = some (ks.map fun k => pk (dkey k))
  | [] => rfl
  | k :: ks => by
    rw [List.map_cons, O.toPs, toP_key, toPs_keys ks]
    rfl
theorem pk_tup (ks : List Key) : pk (.tup (ks.map dkey)) = .tuple (ks.map fun k => pk (dkey k)) := by
  unfold pk
  rw [O.toP, toPs_keys]
  rfl
theorem KeyV.dp {K : PySem.W.Frag} {H : Hp} {v : V} {d : D} (h : KeyV H v d) : Dp K H v (pk d) := by
  cases h with
  | k k => exact dp_key k
  | t ks h =>
    rw [pk_tup]
    exact .tup (SqT.of h) (dp_keys ks)
theorem each_of_get {α β : Type} {R : α → β → Prop} : ∀ {as : List α} {bs : List β}, as.length = bs.length → (∀ (i : Nat) (a : α) (b : β), as[i]? = some a → bs[i]? = some b → R a b) → EachIs R as bs
  | [], [], _, _ => .nil
  | [], _ :: _, h, _ => by simp at h
  | _ :: _, [], h, _ => by simp at h
  | a :: as, b :: bs, h, k => .cons (k 0 a b rfl rfl) (each_of_get (by simpa using h) fun i x y h1 h2 => k (i + 1) x y (by simpa using h1) (by simpa using h2))
section
variable {X : Cx} {Tb : Tbs}
/-- the sort of the keys that were gathered -/
theorem srt_keys {ks : List D} {us : List Value} {s s0 : Shared} {pins : List (Addr × Obj)} {σ : L2.St} {H : Hp} {Q : VK} {h1 : Heap} {tk : Nat} (Iv : Inv X pins σ H s0) (hs : s = { s0 with heap := h1.push (seqObj "list" us.toArray 0), toks := tk }) (kp : ∀ b o, s0.heap.get? b = some o → h1.get? b = some o) (hu : X.A.units + 64 < cLine) (hge : s0.heap.objs.size ≤ h1.objs.size)
    (ea : EachIs (fun u d => ∃ x, RelV x u ∧ KeyV H x d) us ks) (hal : AllAlike (ks.map pk)) (hso : PySem.W.Sortable (ks.map pk)) (hdp : ∀ d ∈ ks, (pk d).depth ≤ 40) (hz : ks.length ≤ sizeLine) (q : ∀ ys p, EachIs (KeyV H) ys (srt pk ks) → H p = none → Q (.ref p) (upd H p (.lst ys))) :
    wpAny (model X.prog X.w) X.A.in1 (call (.builtin "list.sort") [.ref h1.objs.size]) (fun _ s2 => EP X pins σ Q (.ref h1.objs.size) s2) X.xe s := by
  subst hs
  have hp : (h1.push (seqObj "list" us.toArray 0)).get? h1.objs.size = some (seqObj "list" us.toArray 0) := Heap.get?_push_size _ rfl
  have kp2 : ∀ b o, s0.heap.get? b = some o → (h1.push (seqObj "list" us.toArray 0)).get? b = some o := fun b o e => Heap.get?_push_of_some _ (kp b o e)
  have ne : ∀ b o, s0.heap.get? b = some o → b ≠ h1.objs.size := fun b o e => Nat.ne_of_lt (Heap.lt_size (kp b o e))
  have rd : ∀ u d, (∃ x, RelV x u ∧ KeyV H x d) → ∃ as, Reads (h1.push (seqObj "list" us.toArray 0)) u (pk d) as ∧ h1.objs.size ∉ as := by
    rintro u d ⟨x, r, kv⟩
    obtain ⟨as, rr⟩ := Dp.reads Iv (pk d) x u kv.dp r
    exact ⟨as, PyProof.Rows.Reads.keeps kp2 rr, fun c => by
      obtain ⟨o, ho⟩ := PyProof.On.reads_mem_get rr _ c
      exact ne _ _ ho rfl⟩
  have er : EachIs (fun u d => ∃ as, Reads (h1.push (seqObj "list" us.toArray 0)) u (pk d) as ∧ h1.objs.size ∉ as) us ks := ea.mono rd
  refine list_sort_data (R := fun u d => ∃ x, RelV x u ∧ KeyV H x d) hp ea er hal hso hz (fun d hd => ?_) fun out hlen eo => ?_
  · have := hdp d hd
    show X.A.in1.units + 1 + _ < cLine
    have : X.A.in1.units = X.A.units + 1 := rfl
    omega
  · obtain ⟨ys, ry, ey⟩ := each_abs eo
    obtain ⟨c, hc⟩ := sortedHeap_at (vs := us) (out := List.toArray out) hp
    have yl : ys.length ≤ sizeLine := by rw [ry.length, hlen]; exact hz
    exact ⟨.ref _, upd H h1.objs.size (.lst ys), Iv.laid (fun b o e => by rw [sortedHeap_old (ne b o e) (Heap.lt_size (kp2 b o e))]; exact kp2 b o e) hge ⟨yl, out, c, ry, hc⟩, rfl, q _ _ ey (Iv.hok.fresh hge)⟩
/-- the keys of a dict are gathered; the heap has grown -/
theorem gather {prog : Program} {w : World} {A : Around} {E : Value → Shared → Prop} {s : Shared} {T : String} {r d : Addr} {n : Nat} {P : Nat → Value → Prop} {OK : Heap → Prop} {R : List Value → Shared → Prop} (K : KdlSrc prog w T r d n P OK) (hh : A.handled = none) (hok : OK s.heap) (hn : n ≤ sizeLine)
    (h : ∀ (h2 : Heap) (tk : Nat) (us : Array Value), (∀ b o, s.heap.get? b = some o → h2.get? b = some o) → s.heap.objs.size ≤ h2.objs.size → ItemsOf P us n → R us.toList { s with heap := h2, toks := tk }) : wpAny (model prog w) A (collect (.ref r)) R E s := by
  have there := K.there _ hok
  have top : (s.heap.push { cls := .type "list", data := .seq ([] : List Value).toArray }).get? s.heap.objs.size = some { cls := .type "list", data := .seq #[] } := Heap.get?_push_size _ rfl
  have old : ∀ b o, s.heap.get? b = some o → (s.heap.push { cls := .type "list", data := .seq ([] : List Value).toArray }).get? b = some o := fun b o e => Heap.get?_push_of_some _ e
  let W : Result → Shared → Prop := fun q s2 => ∃ (h2 : Heap) (tk : Nat) (us : Array Value) (c : Nat), q = .ok (.ret (.ref s.heap.objs.size)) ∧ s2 = { s with heap := h2, toks := tk } ∧ (∀ b o, s.heap.get? b = some o → h2.get? b = some o) ∧
    h2.get? s.heap.objs.size = some { cls := .type "list", dict := none, data := .seq us c, slots := #[] } ∧ ItemsOf P us n
  have fin : ∀ {q : Result} {s2 : Shared} {f : PySem.Flow}, W q s2 → q = .ok f → ∃ (h2 : Heap) (tk : Nat) (us : Array Value) (c : Nat), f = .ret (.ref s.heap.objs.size) ∧ s2 = { s with heap := h2, toks := tk } ∧ h2.get? s.heap.objs.size = some { cls := .type "list", dict := none, data := .seq us c, slots := #[] } ∧ R us.toList s2 := by
    rintro q s2 f ⟨h2, tk, us, c, rfl, rfl, kp, at2, it⟩ e
    cases e
    exact ⟨h2, tk, us, c, rfl, rfl, at2, h h2 tk us kp (Nat.le_of_lt (Heap.lt_size at2)) it⟩
  have loop := kdl_extend (A := A) (s := { s with heap := s.heap.push { cls := .type "list", data := .seq ([] : List Value).toArray } }) (R := W) K hh (K.keep _ _ hok fun b _ o e => old b o e) s.heap.objs.size (Nat.ne_of_gt there.1) (Nat.ne_of_gt there.2) (.ref s.heap.objs.size) 0 top
    (fun h2 tk us c kp at2 it => ⟨h2, tk, us, c, rfl, rfl, fun b o e => kp b o (Nat.ne_of_lt (Heap.lt_size e)) (old b o e), at2, it⟩) hn
  unfold collect
  apply wpAny_bind
  apply wpAny_runValue
  apply codeAny_builtin entry_proto_collect'
  rw [Around.under_plainId PySem.F.plain_proto_collect]
  show wpAny _ A.in1 (newList [] >>= fun l => again (.builtin "list.__iadd__" ⟨[l, .ref r], []⟩)) _ _ s
  apply wpAny_bind
  refine wpAny_newObj_type (wpAny_pure ⟨plainId_quiet PySem.F.plain_list_iadd _, ?_⟩)
  apply codeAny_builtin entry_list_iadd'
  rw [Around.under_plainId PySem.F.plain_list_iadd]
  show wpAny _ A.in1 (Builtin.List.listExtendWith (.ref s.heap.objs.size) (.ref r) (.ref s.heap.objs.size)) _ _ _
  refine wpAny_mono loop (fun g s2 x => ?_) fun e s2 x => ?_
  · cases g with
    | done f =>
      obtain ⟨h2, tk, us, c, rfl, rfl, at2, q⟩ := fin x rfl
      show wpAny _ A (load s.heap.objs.size >>= _) _ _ _
      exact wpAny_bind (wpAny_load at2 (wpAny_pure q))
    | again g =>
      refine ⟨x.1, codeAny_mono x.2 fun q s3 y => ?_⟩
      cases q with
      | error e =>
        obtain ⟨_, _, _, _, e, _⟩ := y
        cases e
      | ok f =>
        obtain ⟨h2, tk, us, c, rfl, rfl, at2, q⟩ := fin y rfl
        show wpAny _ A (load s.heap.objs.size >>= _) _ _ _
        exact wpAny_bind (wpAny_load at2 (wpAny_pure q))
  · obtain ⟨_, _, _, _, e, _⟩ := x
    cases e
theorem call_srtD (hc : X.calm = true) (hu : X.A.units + 64 < cLine) : CallR X (.builtin "sorted") (rSrtD X.K) := by
  intro pn st sg Hh args raws Qq Iv rr hyp
  obtain ⟨a, o, ks, rfl, src, hal, hso, hdp, hz, q⟩ := hyp
  rw [Vals.ref1 rr]
  have hh : X.A.handled = none := Iv.ok.hd hc
  have raw : (a == sysModules) = false ∧ ∃ (es : Array DictEntry) (ep : Nat), st.heap.DictRaw a es ep ∧ es.size = ks.length ∧ ∀ (i : Nat) (en : DictEntry) (d : D), es[i]? = some en → ks[i]? = some d → ∃ x, RelV x en.key ∧ KeyV Hh x d := by
    rcases src with ⟨kvs, e, rfl⟩ | ⟨kvs, e, rfl⟩
    · obtain ⟨h1, h2, h3, es, ep, vs, h4, h5, h6, h7⟩ := Iv.frzK e
      refine ⟨h1, es, ep, ⟨o, h2, h3, h4⟩, by rw [h5, List.length_map], fun i en d he hd => ?_⟩
      rw [List.getElem?_map] at hd
      cases hk : kvs[i]? with
      | none => rw [hk] at hd; cases hd
      | some kv =>
        rw [hk] at hd
        cases hd
        obtain ⟨es2, r1, r2, r3⟩ := Heap.DictAt.raw h7
        have r1' := r1
        obtain ⟨o2, g1, _, g3⟩ := r1'
        rw [h2] at g1
        cases g1
        rw [h4] at g3
        cases g3
        obtain ⟨u, hu1, hu2⟩ := kv_get h6 (show kvs[i]? = some (kv.1, kv.2) from hk)
        obtain ⟨hi, e2⟩ := Array.getElem?_eq_some_iff.mp he
        obtain ⟨m1, m2⟩ := r3 i hi kv.1 u hu1
        rw [e2] at m1
        exact ⟨_, relV_key m1, .k kv.1⟩
    · obtain ⟨h1, h2, h3, es, ep, h4, h5, h6⟩ := Iv.frzT e
      refine ⟨h1, es, ep, ⟨o, h2, h3, h4⟩, by rw [h5, List.length_map], fun i en d he hd => ?_⟩
      rw [List.getElem?_map] at hd
      cases hk : kvs[i]? with
      | none => rw [hk] at hd; cases hd
      | some kv =>
        rw [hk] at hd
        cases hd
        obtain ⟨en2, q2, g1, g2, g3⟩ := h6 i kv.1 kv.2 hk
        rw [he] at g1
        cases g1
        exact ⟨.ref q2, g2, .t kv.1 g3⟩
  obtain ⟨hs, es, ep, hr, hsz, hkey⟩ := raw
  apply PySem.Calls.call_function_entry kind_sorted plain_sorted entry_sorted (args_sorted1 _)
  unfold Builtin.«sorted»
  apply wpAny_bind (m := checkCount "sorted" 1 1 _)
  apply wpAny_pure
  apply wpAny_bind
  refine gather (A := X.A.in1) (KdlSrc.rawDict (es := es) (ep := ep) hs) hh hr (by omega) fun h2 tk us kp hge it => ?_
  have hl : us.toList.length = ks.length := by rw [Array.length_toList, it.1, hsz]
  have ea : EachIs (fun u d => ∃ x, RelV x u ∧ KeyV Hh x d) us.toList ks := by
    refine each_of_get hl fun i u d h1 h3 => ?_
    obtain ⟨hi, e⟩ := it.2 i u (by rw [← Array.getElem?_toList]; exact h1)
    refine hkey i es[i] d (Array.getElem?_eq_some_iff.mpr ⟨hi, rfl⟩) h3 |>.imp fun x hx => ?_
    rw [e]
    exact hx
  apply wpAny_bind
  refine wpAny_newList ?_ (by rw [hl]; exact hz)
  have fin := srt_keys (us := us.toList) (tk := tk) Iv rfl kp hu hge ea hal hso hdp hz q
  apply wpAny_bind
  apply wpAny_holding
  refine wpAny_mono fin (fun f s3 x => ?_) fun _ _ e => e
  exact wpAny_pure ⟨_, rfl, x⟩
end
namespace N
def sortedD (m : M D) : M (List D) := bnd m fun x z => match dkeys x with
  | some ks => if ks.length ≤ szl ∧ srtOk (ks.map pk) = true then some (srt pk ks, z) else none
  | none => none
/-- xs[::-1] -/
def rev (m : M D) : M (List D) := bnd m fun x z => match cont x z with
  | some (false, ds) => some (ds.reverse, z)
  | _ => none
end N
namespace I
/-- for k in d, the dict laid down -/
def seqK (a : M D) : M It := bnd a fun x z => match dkeys x with
  | some ks => some (⟨ks, none⟩, z)
  | none => none
end I
namespace E
/-- t[lo:hi], not the whole of it -/
def cutT (a : M D) (lo hi : Option (M D)) : M D := bnd a fun x => bnd (N.part lo) fun l => bnd (N.part hi) fun u z => match x with
  | .tup ds => if HT.sIx ds.length 0 l = 0 ∧ HT.sIx ds.length ds.length u = ds.length then none else some (.tup (N.cutL ds l u), z)
  | _ => none
end E
namespace O
/-- t + u, neither empty -/
def catT : D → D → Z → Option D
  | .tup ds, .tup es, _ => if ds ≠ [] ∧ es ≠ [] ∧ ds.length + es.length < szl then some (.tup (ds ++ es)) else none
  | _, _, _ => none
end O
theorem rp_key {K : Kx} {F : Hp} {rho : List Addr} (k : Key) : Rp K F rho (dkey k) (kV k) := by
  cases k with
  | inl i => exact .int i
  | inr s => exact .str s
theorem rps_keys {K : Kx} {F : Hp} {rho : List Addr} : ∀ (ks : List Key), Rps K F rho (ks.map dkey) (ks.map kV)
  | [] => .nil
  | k :: ks => .cons (rp_key k) (rps_keys ks)
theorem rk_keys {K : Kx} {F : Hp} {rho : List Addr} {κ : Type} {kvs : List (κ × D)} {es : List (κ × V)} (h : es.map Prod.fst = kvs.map Prod.fst) (f : κ → D) : (kvs.map fun e => f e.1) = es.map fun e => f e.1 := by
  have e1 : (kvs.map fun e => f e.1) = (kvs.map Prod.fst).map f := by rw [List.map_map]; rfl
  have e2 : (es.map fun e => f e.1) = (es.map Prod.fst).map f := by rw [List.map_map]; rfl
  rw [e1, e2, h]
/-- keys that were gathered are known from now on -/
theorem lay_keys {K : Kx} {B : Bs} {rho : List Addr} {om : Nat → Option Addr} {z : Z} {σ : L2.St} {H : Hp} : ∀ {ys : List V} {ds : List D} {F : Hp}, Rl K B F rho om z σ H → EachIs (KeyV H) ys ds → ∃ F', Rl K B F' rho om z σ H ∧ Same F F' ∧ Rps K F' rho ds ys
  | [], [], F, R, .nil => ⟨F, R, Same.refl _, .nil⟩
  | v :: ys, d :: ds, F, R, .cons h t => by
    cases h with
    | k k =>
      obtain ⟨F', R', s, r⟩ := lay_keys R t
      exact ⟨F', R', s, .cons (rp_key k) r⟩
    | t ks hq =>
      obtain ⟨F1, R1, s1, q1, _⟩ := R.layT hq
      obtain ⟨F', R', s, r⟩ := lay_keys R1 t
      exact ⟨F', R', s1.trans s, .cons (.tup (s _ _ q1) (rps_keys ks)) r⟩
section
variable {X : Cx} {Tb : Tbs}
theorem dkeys_ok {K : Kx} {F H : Hp} {rho : List Addr} {d : D} {v : V} {ks : List D} (s : Same F H) (r : Rp K F rho d v) (h : dkeys d = some ks) : ∃ (a : Addr) (o : Obj), v = .ref a ∧
    ((∃ kvs : List (Key × V), F a = some (.frz o (.dK kvs)) ∧ ks = kvs.map fun e => dkey e.1) ∨ ∃ kvs : List (List Key × V), F a = some (.frz o (.dT kvs)) ∧ ks = kvs.map fun e => .tup (e.1.map dkey)) := by
  cases r with
  | @dk a es kvs o h1 h2 h3 =>
    cases h
    exact ⟨a, o, rfl, .inl ⟨es, h1, rk_keys (K := K) (F := F) (rho := rho) h2 dkey⟩⟩
  | @dt a es kvs o h1 h2 h3 =>
    cases h
    exact ⟨a, o, rfl, .inr ⟨es, h1, rk_keys (K := K) (F := F) (rho := rho) h2 fun k => .tup (k.map dkey)⟩⟩
  | _ => cases h
theorem mf_sortedD {p pos : Pos} {e : Expr} {m : M D} (hc : X.calm = true) (hu : X.A.units + 64 < cLine) (hg : Gl X "sorted") (hm : X.mg "sorted" = none) (ha : PE X e (Te (kx X Tb) m)) (hv : bootBuiltins "sorted" = some (.builtin "sorted") := by decide +kernel)
    (he : starEach [e] X.env = (false, eval e X.env) :: starEach [] X.env := by rfl) (hpl : (backTo pos (starEach [] X.env)).any (·.1) = false := by rfl) : PE X (.Call (.Name "sorted" p) [e] [] pos) (Tf (kx X Tb) (N.sortedD m)) := by
  refine pe_imp (pe_callB (call_srtD hc hu) hg hm hv (pa_cons ha pa_nil he) (by decide) (by decide) he hpl) fun σ H Q ⟨B, F, rho, om, z, g⟩ => ?_
  refine (g.bnd.imp fun _ _ H1 _ _ v _ _ _ _ _ ⟨F2, rho2, z2, x, eg1, s1, p1, r1, g1⟩ => ?_).tx (R := rV (kx X Tb))
  obtain ⟨R, d, z4, e, k⟩ := g1
  dsimp only at e
  split at e
  · rename_i ks hk
    split at e
    · rename_i c
      cases e
      cases r1 with
      | own _ => cases hk
      | pure r1 =>
        obtain ⟨a, o, rfl, src⟩ := dkeys_ok R.rh.fro r1 hk
        obtain ⟨c1, c2⟩ := c
        unfold srtOk at c2
        rw [Bool.and_eq_true, Bool.and_eq_true] at c2
        refine ⟨a, o, ks, rfl, ?_, alikeB_ok c2.1.1, sortB_ok c2.1.2, fun d hd => of_decide_eq_true (List.all_eq_true.mp c2.2 _ (List.mem_map_of_mem hd)), Nat.le_trans c1 szl_line, fun ys l ey hl => ?_⟩
        · rcases src with ⟨kvs, h1, h2⟩ | ⟨kvs, h1, h2⟩
          · exact .inl ⟨kvs, R.rh.fro _ _ h1, h2⟩
          · exact .inr ⟨kvs, R.rh.fro _ _ h1, h2⟩
        · obtain ⟨F3, R3, s3, q3⟩ := lay_keys R ey
          obtain ⟨R4, f4⟩ := R3.new (o := .lst ys) hl
          exact k F3 rho2 _ _ s3 (List.prefix_refl _) R4 ⟨l, ys, rfl, upd_same, f4, q3⟩
    · cases e
  · cases e
theorem me_cutT {e : Expr} {lo hi : Option Expr} {p2 pos : Pos} {m : M D} {ml mh : Option (M D)} (he : PE X e (Te (kx X Tb) m)) (hl : PO X lo (To (kx X Tb) (N.part ml))) (hu : PO X hi (To (kx X Tb) (N.part mh))) : PE X (.Subscript e (.Slice lo hi none p2) pos) (Te (kx X Tb) (E.cutT m ml mh)) := by
  refine pe_imp (pe_slice sl_tup he hl hu) fun σ H Q ⟨B, F, rho, om, z, g⟩ => ?_
  refine (g.bnd.imp fun _ _ H1 _ _ v _ _ _ _ _ ⟨F2, rho2, z2, x, eg1, s1, p1, r1, g1⟩ => ?_).tx (R := rV (kx X Tb))
  refine (g1.bnd.imp fun _ _ H3 _ _ l _ _ _ _ _ ⟨F4, rho4, z4, l', eg2, s2, p2, r2, g2⟩ => ?_).tx (R := rO)
  refine (g2.bnd.imp fun _ _ H5 _ _ u _ _ _ _ _ ⟨F6, rho6, z6, u', eg3, s3, p3, r3, g3⟩ => ?_).tx (R := rO)
  have r2 : l = l' := r2
  have r3 : u = u' := r3
  subst r2 r3
  obtain ⟨R, d, z7, e, k⟩ := g3
  dsimp only at e
  split at e
  · rename_i ds
    split at e
    · cases e
    · rename_i hw
      cases e
      cases (r1.mono s2 p2).mono s3 p3 with
      | pure r =>
        cases r with
        | @tup a xs _ h q =>
          have hlen := q.length
          refine ⟨a, xs, rfl, SqT.of (R.rh.fro _ _ h), by rw [← hlen]; exact hw, fun p hp => ?_⟩
          obtain ⟨F7, R7, s7, q7⟩ := R.alloc (o := .tup (cutV xs l u)) hp
          exact k F7 rho6 _ _ s7 (List.prefix_refl _) R7 (.pure (.tup q7 ((cut_rps q l u).mono s7 (List.prefix_refl _))))
  · cases e
end
end Mi
set_option Elab.async false
set_option linter.all false
set_option maxRecDepth 100000
namespace Mi
open PySem PySem.Spec PyProof.Rows L2
section
variable {z z1 z2 z3 : Z} {a b c e : M D} {x y w d cc : D} {s s' : List Sl} {h h' : List D} {o : Option D}
theorem ev_dix (h1 : a z = some (x, z1)) (h2 : b z1 = some (y, z2)) (h3 : dcont x z2 = some cc) (h4 : dgetC cc y = some (some d)) : E.op O.dix a b z = some (d, z2) := ev_op h1 h2 (by unfold O.dix dget; rw [h3]; dsimp only; rw [h4])
theorem ev_din (h1 : a z = some (x, z1)) (h2 : b z1 = some (y, z2)) (h3 : dcont y z2 = some cc) (h4 : dgetC cc x = some o) : E.op O.din a b z = some (.bl o.isSome, z2) := ev_op h1 h2 (by unfold O.din dget; rw [h3]; dsimp only; rw [h4])
theorem ev_dnotIn (h1 : a z = some (x, z1)) (h2 : b z1 = some (y, z2)) (h3 : dcont y z2 = some cc) (h4 : dgetC cc x = some o) : E.op O.dnotIn a b z = some (.bl (!o.isSome), z2) := ev_op h1 h2 (by unfold O.dnotIn dget; rw [h3]; dsimp only; rw [h4])
theorem ev_get1 (h1 : a z = some (x, z1)) (h0 : (dcont x z1).isSome = true) (h2 : b z1 = some (y, z2)) (h3 : dcont x z2 = some cc) (h4 : dgetC cc y = some o) : E.get1 a b z = some (o.getD .non, z2) := by
  unfold E.get1
  rw [bnd_of h1]
  try dsimp only
  rw [if_pos h0, bnd_of h2]
  unfold dget
  rw [h3]
  dsimp only
  rw [h4]
theorem ev_get2 (h1 : a z = some (x, z1)) (h0 : (dcont x z1).isSome = true) (h2 : b z1 = some (y, z2)) (h5 : c z2 = some (w, z3)) (hw : isPure w = true) (h3 : dcont x z3 = some cc) (h4 : dgetC cc y = some o) : E.get2 a b c z = some (o.getD w, z3) := by
  unfold E.get2
  rw [bnd_of h1]
  try dsimp only
  rw [if_pos h0, bnd_of h2, bnd_of h5, if_pos hw]
  unfold dget
  rw [h3]
  dsimp only
  rw [h4]
theorem ev_shrN {m : M D} (h1 : m z = some (d, ⟨s, h⟩)) : E.shrN m z = some (.ref h.length, ⟨s, h ++ [d]⟩) := by
  unfold E.shrN
  rw [bnd_of h1]
theorem ev_frzD {m : M D} (h1 : m z = some (d, z1)) (h2 : C.isDict d = true) : E.frzD m z = some (d, z1) := by
  unfold E.frzD
  rw [bnd_of h1, if_pos h2]
  rfl
theorem ev_pairs0 : E.pairs [] z = some ([], z) := rfl
theorem ev_pairs {r : List (M D × M D)} {k : Key} {ps : List (Key × D)} (h1 : a z = some (x, z1)) (h2 : b z1 = some (y, z2)) (h3 : E.pairs r z2 = some (ps, z3)) (hk : keyD x = some k) (hp : isPure y = true) : E.pairs ((a, b) :: r) z = some ((k, y) :: ps, z3) := by
  show bnd a _ z = _
  rw [bnd_of h1, bnd_of h2, bnd_of h3, hk]
  dsimp only
  rw [if_pos hp]
  rfl
theorem ev_dispK {prs : List (M D × M D)} {ps : List (Key × D)} (h1 : E.pairs prs z = some (ps, z1)) : N.dispK prs z = some (.dk (mergeG [] ps), z1) := by
  unfold N.dispK
  rw [bnd_of h1]
  rfl
theorem ev_sortedD {ks : List D} (h1 : a z = some (x, z1)) (h2 : dkeys x = some ks) (h3 : ks.length ≤ szl) (h4 : srtOk (ks.map pk) = true) : N.sortedD a z = some (srt pk ks, z1) := by
  unfold N.sortedD
  rw [bnd_of h1, h2]
  dsimp only
  rw [if_pos ⟨h3, h4⟩]
theorem ev_rev {ds : List D} (h1 : a z = some (x, z1)) (h2 : cont x z1 = some (false, ds)) : N.rev a z = some (ds.reverse, z1) := by
  unfold N.rev
  rw [bnd_of h1, h2]
theorem ev_cutT {lo hi : Option (M D)} {l u : Option Int} {ds : List D} (h1 : a z = some (.tup ds, z1)) (h2 : N.part lo z1 = some (l, z2)) (h3 : N.part hi z2 = some (u, z3)) (h4 : ¬ (HT.sIx ds.length 0 l = 0 ∧ HT.sIx ds.length ds.length u = ds.length)) : E.cutT a lo hi z = some (.tup (N.cutL ds l u), z3) := by
  unfold E.cutT
  rw [bnd_of h1, bnd_of h2, bnd_of h3]
  dsimp only
  rw [if_neg h4]
theorem ev_catT {ds es : List D} (h1 : a z = some (.tup ds, z1)) (h2 : b z1 = some (.tup es, z2)) (h3 : ds ≠ []) (h4 : es ≠ []) (h5 : ds.length + es.length < szl) : E.op O.catT a b z = some (.tup (ds ++ es), z2) := ev_op h1 h2 (by unfold O.catT; exact if_pos ⟨h3, h4, h5⟩)
theorem ev_seqK {ks : List D} (h1 : a z = some (x, z1)) (h2 : dkeys x = some ks) : I.seqK a z = some (⟨ks, none⟩, z1) := by
  unfold I.seqK
  rw [bnd_of h1, h2]
theorem lf_dcont {r : Option D} (q : dcont x z = r) : dcont x z = r := q
theorem lf_dcS {r : Bool} (q : (dcont x z).isSome = r) : (dcont x z).isSome = r := q
theorem lf_dgetC {r : Option (Option D)} (q : dgetC x y = r) : dgetC x y = r := q
theorem lf_keyD {r : Option Key} (q : keyD x = r) : keyD x = r := q
theorem lf_isDict {r : Bool} (q : C.isDict x = r) : C.isDict x = r := q
theorem lf_dkeys {r : Option (List D)} (q : dkeys x = r) : dkeys x = r := q
theorem cs_dputO {n : Nat} {c' v : D} (h1 : e z = some (v, z1)) (h2 : a z1 = some (.own n, z2)) (h3 : b z2 = some (y, ⟨s, h⟩)) (h4 : s[n]? = some (.own cc)) (h5 : dputC cc y v = some c') (hp : isPure v = true) (hs : s.set n (.own c') = s') : C.dput a b e z = some (.nx, ⟨s', h⟩) := by
  subst hs
  unfold C.dput
  rw [bnd_of h1, bnd_of h2, bnd_of h3, if_pos hp]
  dsimp only
  rw [h4]
  dsimp only
  rw [h5]
theorem cs_ownD {n : Nat} {m : M D} (h1 : m z = some (d, ⟨s, h⟩)) (hl : n < s.length) (hs : s.set n (.own d) = s') : C.ownN n m z = some (.nx, ⟨s', h⟩) := by
  subst hs
  unfold C.ownN
  rw [bnd_of h1]
  exact if_pos hl
theorem cs_frzD {n : Nat} (h1 : s[n]? = some (.own d)) (h2 : C.isDict d = true) (hs : s.set n (.val d) = s') : C.frzD n ⟨s, h⟩ = some (.nx, ⟨s', h⟩) := by
  subst hs
  unfold C.frzD
  dsimp only
  rw [h1]
  dsimp only
  rw [if_pos h2]
theorem cs_retD {n : Nat} (h1 : e z = some (.own n, ⟨s, h⟩)) (h2 : s[n]? = some (.own d)) (h3 : C.isDict d = true) : C.retD e z = some (.rt d, ⟨s.set n .no, h⟩) := by
  unfold C.retD
  rw [bnd_of h1]
  dsimp only
  rw [h2]
  dsimp only
  rw [if_pos h3]
/-- equal data are equal -/
theorem eqP_self {x y : D} {p : PyData} (h1 : O.toP (O.snap x z) = some p) (h2 : O.toP (O.snap y z) = some p) (h3 : SeqAt.shaped p = true) : O.eqP x y z = some true := by
  have e : O.eqD x y z = some true := by
    unfold O.eqD
    rw [h1, h2]
    dsimp only
    have h4 : p.canLay0 = true := by
      unfold SeqAt.shaped at h3
      simp only [Bool.and_eq_true] at h3
      exact h3.1
    rw [if_pos ⟨h3, h3⟩, SeqAt.eqv_refl _ h4]
  unfold O.eqP
  split
  · rename_i a b
    have h1 : some (PyData.str a) = some p := h1
    have h2 : some (PyData.str b) = some p := h2
    rw [← h1] at h2
    cases h2
    simp
  · exact e
theorem loop_shr {it : It} (hk : it.chk = none) (v : Nat) (s : List Sl) (hs : s.set v .no = s) : ∀ (ds acc h : List D), N.loop it (G.nm v) [v] (Mi.ret true) (E.shr (N.disp [])) ds acc ⟨s, h⟩ = some (acc ++ (List.range ds.length).map (fun i => D.ref (h.length + i)), ⟨s, h ++ List.replicate ds.length (.lst [])⟩)
  | [], acc, h => by
    have ok : it.ok ⟨s, h⟩ = true := by unfold It.ok; rw [hk]
    rw [nl_nil ok]
    simp
  | d :: ds, acc, h => by
    have ok : it.ok ⟨s, h⟩ = true := by unfold It.ok; rw [hk]
    have ih := loop_shr hk v s hs ds (acc ++ [.ref h.length]) (h ++ [.lst []])
    have e := nl_t (tt := Mi.ret true) (te := E.shr (N.disp [])) (acc := acc) (ds := ds) (d := d) (g := G.nm v) (vs := [v]) (z1 := ⟨s.set v (.val d), h⟩) (z2 := ⟨s.set v (.val d), h⟩) (z3 := ⟨s.set v (.val d), h ++ [.lst []]⟩) (x := .ref h.length) ok rfl rfl (ev_shr (ev_disp ev_args0)) rfl rfl
    have ew : N.wipe (s.set v (.val d)) [v] = s := by
      show (s.set v (.val d)).set v .no = s
      rw [List.set_set, hs]
    rw [e]
    dsimp only
    rw [ew, ih]
    rw [List.length_cons, List.range_succ_eq_map, List.map_cons, List.map_map, List.append_assoc, List.append_assoc, List.length_append, List.length_singleton, List.replicate_succ]
    congr 3
    · simp only [List.singleton_append, Nat.add_zero]
      congr 1
      refine List.map_congr_left fun i _ => ?_
      show D.ref (h.length + 1 + i) = D.ref (h.length + (i + 1))
      congr 1
      omega
theorem comp_shr {mi : M It} {it : It} {v : Nat} {s : List Sl} {h : List D} {x0 : Sl} (h1 : mi ⟨s, h⟩ = some (it, ⟨s, h⟩)) (hk : it.chk = none) (hl : it.items.length ≤ szl) (hv : s[v]? = some x0) (ho : N.isOwn (some x0) = false) :
    N.comp mi (G.nm v) [v] (Mi.ret true) (E.shr (N.disp [])) ⟨s, h⟩ = some ((List.range it.items.length).map (fun i => D.ref (h.length + i)), ⟨s, h ++ List.replicate it.items.length (.lst [])⟩) := by
  have hvl := (List.getElem?_eq_some_iff.mp hv).1
  have e := ev_comp (g := G.nm v) (vs := [v]) (tt := Mi.ret true) (te := E.shr (N.disp [])) h1 hl (by show (!N.isOwn s[v]? && true) = true; rw [hv, ho]; rfl) (loop_shr hk v (s.set v .no) (by rw [List.set_set]) it.items [] h)
  rw [e]
  have er : N.rest s (s.set v .no) [v] = s := by
    show (match s[v]? with | some x => (s.set v .no).set v x | none => s.set v .no) = s
    rw [hv]
    dsimp only
    rw [List.set_set]
    refine List.ext_getElem? fun j => ?_
    by_cases c : v = j
    · subst c
      rw [List.getElem?_set_self hvl, hv]
    · rw [List.getElem?_set_ne c]
  rw [List.nil_append, er]
end
def Shd (d : D) (dep : Nat) : Prop := ∃ p, O.toP d = some p ∧ p.canLay0 = true ∧ p.depth ≤ dep
theorem Shd.mono {d : D} {a b : Nat} (h : Shd d a) (hab : a ≤ b) : Shd d b := by
  obtain ⟨p, h1, h2, h3⟩ := h
  exact ⟨p, h1, h2, Nat.le_trans h3 hab⟩
theorem Shd.int {i : Int} {n : Nat} : Shd (.int i) n := ⟨.int i, rfl, by simp [PyData.canLay0], by simp [PyData.depth]⟩
theorem Shd.bl {i : Bool} {n : Nat} : Shd (.bl i) n := ⟨.bool i, rfl, by simp [PyData.canLay0], by simp [PyData.depth]⟩
theorem Shd.non {n : Nat} : Shd .non n := ⟨.none, rfl, by simp [PyData.canLay0], by simp [PyData.depth]⟩
def ShdAll (ds : List D) (dep : Nat) : Prop := ∃ ps, O.toPs ds = some ps ∧ PyData.canLayAll0 ps = true ∧ PyData.depthAll ps ≤ dep
theorem ShdAll.of {dep : Nat} : ∀ {ds : List D}, (∀ d ∈ ds, Shd d dep) → ShdAll ds dep
  | [], _ => ⟨[], rfl, by simp [PyData.canLayAll0], by simp [PyData.depthAll]⟩
  | d :: ds, h => by
    obtain ⟨p, h1, h2, h3⟩ := h d List.mem_cons_self
    obtain ⟨ps, g1, g2, g3⟩ := ShdAll.of (ds := ds) fun x hx => h x (List.mem_cons_of_mem _ hx)
    refine ⟨p :: ps, by rw [O.toPs, h1, g1], by simp [PyData.canLayAll0, h2, g2], ?_⟩
    simp only [PyData.depthAll]
    omega
theorem Shd.lst {ds : List D} {dep : Nat} (h : ∀ d ∈ ds, Shd d dep) : Shd (.lst ds) (dep + 1) := by
  obtain ⟨ps, g1, g2, g3⟩ := ShdAll.of h
  refine ⟨.list ps, by rw [O.toP, g1]; rfl, by simpa [PyData.canLay0] using g2, ?_⟩
  simp only [PyData.depth]
  omega
theorem Shd.tup {ds : List D} {dep : Nat} (h : ∀ d ∈ ds, Shd d dep) : Shd (.tup ds) (dep + 1) := by
  obtain ⟨ps, g1, g2, g3⟩ := ShdAll.of h
  refine ⟨.tuple ps, by rw [O.toP, g1]; rfl, by simpa [PyData.canLay0] using g2, ?_⟩
  simp only [PyData.depth]
  omega
/-- x == x -/
theorem Shd.eqP {x y d : D} {z : Z} (h : Shd d 64) (hx : O.snap x z = d) (hy : O.snap y z = d) : O.eqP x y z = some true := by
  obtain ⟨p, h1, h2, h3⟩ := h
  exact eqP_self (p := p) (by rw [hx, h1]) (by rw [hy, h1]) (by unfold SeqAt.shaped; rw [h2, decide_eq_true h3]; rfl)
end Mi
set_option Elab.async false
set_option linter.all false
set_option maxRecDepth 100000
namespace Mi
open PySem L2
section
variable {x y d : D} {z z1 z2 z3 : Z} {s s' s2 : List Sl} {h h2 : List D}
theorem Rep.str {s : Str} {n : Nat} (h1 : (s.cps.toList.all fun c => decide (c < 16 ^ 8)) = true) (h2 : s.cps.size ≤ n) : Rep (.str s) 0 n :=
  ⟨.str s, rfl, by simp [PyData.showable], by simp [PyData.hasDict], by simp [PyData.depth], by rw [PyData.leavesShort]; exact h1, by simpa [PyData.weight] using h2⟩
theorem Shd.str {s : Str} {n : Nat} (h : (PyData.str s).canLay0 = true) : Shd (.str s) n := ⟨.str s, rfl, h, by simp [PyData.depth]⟩
end
namespace Dr
noncomputable section
@[reducible] def st_law_pick_1 : C := (C.ret (E.op O.ix (E.var 1) (E.call m_law_draw [(E.var 0), (E.blt F.len [(E.var 1)])])))
def b_law_pick : C := st_law_pick_1
def m_law_pick : Fn := fn 2 2 b_law_pick
end
end Dr
end Mi
set_option Elab.async false
set_option linter.all false
set_option maxRecDepth 100000
namespace Mi
open PySem PySem.W PySem.Spec PyProof.Rows L2
def F.rowI (x : D) (z : Z) : Option (List Int) := match cont x z with
  | some (_, ds) => F.ofInts ds
  | none => none
def F.minR : List D → Z → Option D
  | [x], z => match F.rowI x z with
    | some ns => (F.minL ns).map .int
    | none => none
  | _, _ => none
section
variable {X : Cx}
def RowI (K : PySem.W.Frag) (H : Hp) (a : Addr) (ns : List Int) : Prop := SqL K H a (ns.map V.int) ∨ SqT K H a (ns.map V.int)
theorem rowI_ok {K : Kx} {B : Bs} {F : Hp} {rho : List Addr} {om : Nat → Option Addr} {z : Z} {σ : L2.St} {H : Hp} {d : D} {v : V} {ns : List Int} (R : Rl K B F rho om z σ H) (r : Rv K F rho om d v) (h : Mi.F.rowI d z = some ns) : ∃ a, v = .ref a ∧ RowI K H a ns := by
  unfold Mi.F.rowI at h
  split at h
  · rename_i ds hc
    obtain ⟨a, xs, rfl, q, h9⟩ := cont_ok R r hc
    obtain rfl := ofInts_ok h q
    rcases h9 with ⟨_, h9⟩ | ⟨_, h9⟩
    · exact ⟨a, rfl, .inl h9⟩
    · exact ⟨a, rfl, .inr h9⟩
  · cases h
theorem reads_ints {h : Heap} : ∀ {ns : List Int} {us : List Value}, Vals (ns.map V.int) us → ReadsAll h us (ns.map PyData.int) []
  | [], us, r => by cases r; exact .nil
  | n :: ns, us, r => by
    cases r with
    | cons r1 r2 =>
      obtain ⟨t, rfl⟩ := r1
      exact .cons (as := []) (bs := []) (.int n t) (reads_ints r2)
theorem alike_row (ns : List Int) : AlikeAll (ns.map PyData.int) := by
  constructor
  · intro x hx y hy
    obtain ⟨i, _, rfl⟩ := List.mem_map.mp hx
    obtain ⟨j, _, rfl⟩ := List.mem_map.mp hy
    show PySem.W.alike (.int i) (.int j) = true
    simp only [PySem.W.alike]
  · intro x hx
    obtain ⟨i, _, rfl⟩ := List.mem_map.mp hx
    exact fun c => nomatch c
theorem depth_row : ∀ ns : List Int, PyData.depthAll (ns.map PyData.int) = 0
  | [] => by simp [PyData.depthAll]
  | n :: ns => by simp [PyData.depthAll, PyData.depth, depth_row ns]
theorem fold_min (n : Int) (ns : List Int) : ns.foldl min n = ns.foldl (fun a b => if b < a then b else a) n := by
  congr 1
  funext a b
  split <;> omega
def rMinR (K : PySem.W.Frag) : List V → Hp → VK → Prop := fun vs H Q => ∃ (a : Addr) (n : Int) (ns : List Int), vs = [V.ref a] ∧ RowI K H a (n :: ns) ∧ Q (.int (ns.foldl (fun a b => if b < a then b else a) n)) H
theorem call_minR (hc : X.calm = true) (hu : X.A.units + 64 < cLine) : CallR X (.builtin "min") (rMinR X.K) := by
  intro pins s σ H vs us Q I r h
  obtain ⟨a, n, ns, rfl, hs, q⟩ := h
  rw [Vals.ref1 r]
  have hd : X.A.units + 1 + PyData.depthAll (PyData.int n :: ns.map PyData.int) < cLine := by
    have := depth_row (n :: ns)
    rw [List.map_cons] at this
    omega
  rcases hs with hs | hs
  · obtain ⟨its, rv, hl, _⟩ := I.list hs
    refine min_list_data (I.ok.hd hc) hl.isList (reads_ints (ns := n :: ns) rv) (alike_row (n :: ns)) hd fun i v h' tk bs _ rd hk => ?_
    rw [minD_ints, fold_min] at rd
    cases rd with
    | int i t => exact ⟨.int _, H, I.kept hk, ⟨_, rfl⟩, q⟩
  · obtain ⟨its, rv, hl, _⟩ := I.tuple hs
    refine min_tuple_data (I.ok.hd hc) hl (reads_ints (ns := n :: ns) rv) (alike_row (n :: ns)) hd fun i v h' tk bs _ rd hk => ?_
    rw [minD_ints, fold_min] at rd
    cases rd with
    | int i t => exact ⟨.int _, H, I.kept hk, ⟨_, rfl⟩, q⟩
theorem f_minR (hc : X.calm = true) (hu : X.A.units + 64 < cLine) : CallM X (.builtin "min") F.minR := by
  refine ⟨_, call_minR hc hu, ?_⟩
  intro Tb B F rho om z σ H xs vs d R r e Q k
  unfold Mi.F.minR at e
  split at e
  · obtain ⟨v, rfl, rv⟩ := rvs1 r
    rename_i x
    split at e
    · rename_i ns hl
      obtain ⟨a, rfl, h⟩ := rowI_ok R rv hl
      cases ns with
      | nil => cases e
      | cons n ns =>
        cases e
        exact ⟨a, n, ns, rfl, h, k F H _ (Same.refl F) R (.pure (.int _))⟩
    · cases e
  · cases e
end
section
variable {x y d : D} {z z1 z2 z3 : Z} {s s' s2 : List Sl} {h h0 h1 h2 : List D}
theorem lf_minR {t : Bool} {ds : List D} {n : Int} {ns : List Int} (hc : cont x z = some (t, ds)) (hn : F.ofInts ds = some (n :: ns)) : F.minR [x] z = some (.int (ns.foldl (fun a b => if b < a then b else a) n)) := by
  show (match F.rowI x z with | some ns => (F.minL ns).map D.int | none => none) = _
  unfold F.rowI
  rw [hc]
  dsimp only
  rw [hn]
  rfl
end
end Mi
set_option Elab.async false
set_option linter.all false
set_option maxRecDepth 100000
namespace Mi
open PySem PySem.W PySem.Spec PyProof.Rows L2
/-- what is never come to -/
def C.never : C := fun _ => none
end Mi
set_option Elab.async false
set_option linter.all false
set_option maxRecDepth 100000
namespace Mi
open PySem L2
@[reducible] def eI (i : Int) : D := .int i
@[reducible] def eB (b : Bool) : D := .bl b
@[reducible] def eS (x : Str) : D := .str x
@[reducible] def eN (_ : Unit) : D := .non
@[reducible] def eD (d : D) : D := d
def eO {α : Type} (e : α → D) : Option α → D
  | none => .non
  | some x => e x
section
variable {α β γ δ ε ζ η θ ι κ : Type}
@[reducible] def eL (e : α → D) (xs : List α) : D := .lst (xs.map e)
@[reducible] def e1 (a : α → D) (p : α) : D := .tup [a p]
@[reducible] def e2 (a : α → D) (b : β → D) (p : α × β) : D := .tup [a p.1, b p.2]
@[reducible] def e3 (a : α → D) (b : β → D) (c : γ → D) (p : α × β × γ) : D := .tup [a p.1, b p.2.1, c p.2.2]
@[reducible] def e4 (a : α → D) (b : β → D) (c : γ → D) (d : δ → D) (p : α × β × γ × δ) : D := .tup [a p.1, b p.2.1, c p.2.2.1, d p.2.2.2]
@[reducible] def e5 (a : α → D) (b : β → D) (c : γ → D) (d : δ → D) (e : ε → D) (p : α × β × γ × δ × ε) : D := .tup [a p.1, b p.2.1, c p.2.2.1, d p.2.2.2.1, e p.2.2.2.2]
@[reducible] def e6 (a : α → D) (b : β → D) (c : γ → D) (d : δ → D) (e : ε → D) (f : ζ → D) (p : α × β × γ × δ × ε × ζ) : D := .tup [a p.1, b p.2.1, c p.2.2.1, d p.2.2.2.1, e p.2.2.2.2.1, f p.2.2.2.2.2]
@[reducible] def e7 (a : α → D) (b : β → D) (c : γ → D) (d : δ → D) (e : ε → D) (f : ζ → D) (g : η → D) (p : α × β × γ × δ × ε × ζ × η) : D := .tup [a p.1, b p.2.1, c p.2.2.1, d p.2.2.2.1, e p.2.2.2.2.1, f p.2.2.2.2.2.1, g p.2.2.2.2.2.2]
/-- written tuples -/
@[reducible] def k2 (a : α → D) (b : β → D) (p : α × β) : D := .kt [a p.1, b p.2]
@[reducible] def k3 (a : α → D) (b : β → D) (c : γ → D) (p : α × β × γ) : D := .kt [a p.1, b p.2.1, c p.2.2]
end
namespace Pl
section
variable {α β γ σ ρ : Type}
def mul (i j : Int) : Option Int := if i.natAbs < 2 ^ bigN ∧ j.natAbs < 2 ^ bigN then some (i * j) else none
def div (i j : Int) : Option Int := if 0 < j ∧ j.natAbs < 2 ^ bigN then some (i / j) else none
def mod (i j : Int) : Option Int := if 0 < j then some (i % j) else none
def app (xs : List α) (x : α) : Option (List α) := if xs.length < szl then some (xs ++ [x]) else none
def cat (xs ys : List α) : Option (List α) := if xs.length + ys.length < szl then some (xs ++ ys) else none
def at_ (xs : List α) (i : Int) : Option α := atI xs i
def rng (a b : Int) : List Int := (List.range (b - a).toNat).map fun i : Nat => a + (i : Int)
def rngO (a b : Int) : Option (List Int) := if (-(2 ^ 62) ≤ a ∧ a < 2 ^ 62) ∧ -(2 ^ 62) ≤ b ∧ b < 2 ^ 62 then some (rng a b) else none
def andO (p : Bool) (o : Option Bool) : Option Bool := if p = true then o else some false
def orO (p : Bool) (o : Option Bool) : Option Bool := if p = true then some true else o
/-- a comprehension -/
def cmp (t : α → Option Bool) (f : α → Option β) : List α → Option (List β)
  | [] => some []
  | x :: xs => (t x).bind fun b => if b = true then (f x).bind fun y => (cmp t f xs).bind fun ys => some (y :: ys) else cmp t f xs
def comp (t : α → Option Bool) (f : α → Option β) (xs : List α) : Option (List β) := if xs.length ≤ szl then cmp t f xs else none
inductive Out (σ ρ : Type) where
  | go (s : σ) | brk (s : σ) | ret (r : ρ)
/-- for, without an exit -/
def forN (f : α → σ → Option σ) : List α → σ → Option σ
  | [], s => some s
  | x :: xs, s => (f x s).bind fun s => forN f xs s
/-- for, with exits -/
def forO (f : α → σ → Option (Out σ ρ)) : List α → σ → Option (σ ⊕ ρ)
  | [], s => some (.inl s)
  | x :: xs, s => match f x s with
    | none => none
    | some (.go s) => forO f xs s
    | some (.brk s) => some (.inl s)
    | some (.ret r) => some (.inr r)
def whO (t : σ → Option Bool) (f : σ → Option (Out σ ρ)) (s : σ) : Option (σ ⊕ ρ) := match t s with
  | none => none
  | some false => some (.inl s)
  | some true => match f s with
    | none => none
    | some (.go s) => whO t f s
    | some (.brk s) => some (.inl s)
    | some (.ret r) => some (.inr r)
partial_fixpoint
def draw (s : DS) (many : Int) : Option (Int × DS) := if 0 < many ∧ many ≤ 1000000000000 then some (drawV s many, drawS s many) else none
def take (s : TS) (many : Int) : Option (Int × TS) := if 0 < many then some (takeV s many, takeS s) else none
end
end Pl
def Rf {α : Type} (o : Option α) (c : C) (z : Z) (Φ : α → Fl → Z → Prop) : Prop := ∀ r, o = some r → ∃ f z', c z = some (f, z') ∧ Φ r f z'
theorem bI {α β : Type} {o : Option α} {K : α → Option β} {r : β} (h : o.bind K = some r) : ∃ t, o = some t ∧ K t = some r := by
  cases o with
  | none => cases h
  | some t => exact ⟨t, rfl, h⟩
section
variable {α β γ σ ρ : Type} {o : Option α} {c a b rest : C} {z z1 z2 : Z} {s s' s2 : List Sl} {h h1 : List D} {Φ Ψ : α → Fl → Z → Prop}
theorem Rf.imp (k : Rf o c z Ψ) (i : ∀ r f z, Ψ r f z → Φ r f z) : Rf o c z Φ := fun r e => by
  obtain ⟨f, z', e1, q⟩ := k r e
  exact ⟨f, z', e1, i r f z' q⟩
theorem Rf.bd {o : Option β} {K : β → Option α} (k : ∀ t, o = some t → Rf (K t) c z Φ) : Rf (o.bind K) c z Φ := fun r e => by
  obtain ⟨t, e1, e2⟩ := bI e
  exact k t e1 r e2
theorem seq_nx {a b : C} {z z1 : Z} (h : a z = some (.nx, z1)) : C.seq a b z = b z1 := by unfold C.seq; rw [h]
theorem Rf.nx (h1 : a z = some (.nx, z1)) (k : Rf o rest z1 Φ) : Rf o (C.seq a rest) z Φ := fun r e => by
  obtain ⟨f, z', e1, q⟩ := k r e
  exact ⟨f, z', by rw [seq_nx h1]; exact e1, q⟩
theorem Rf.skip (k : Rf o c z Φ) : Rf o (C.seq C.skip c) z Φ := k.nx rfl
theorem seq_skip (a : C) : C.seq a C.skip = a := by
  funext z
  unfold C.seq C.skip
  split
  · rename_i z1 h; rw [h]
  · rfl
theorem seq_assoc (a b c : C) : C.seq (C.seq a b) c = C.seq a (C.seq b c) := by
  funext z
  unfold C.seq
  cases h : a z with
  | none => rfl
  | some p =>
    obtain ⟨f, z1⟩ := p
    cases f <;> rfl
theorem Rf.last (k : Rf o (C.seq c C.skip) z Φ) : Rf o c z Φ := by rw [seq_skip] at k; exact k
theorem Rf.assoc (k : Rf o (C.seq a (C.seq b c)) z Φ) : Rf o (C.seq (C.seq a b) c) z Φ := by rw [seq_assoc]; exact k
theorem Rf.fin {r : α} (q : Φ r .nx z) : Rf (some r) C.skip z Φ := fun r' e => by cases e; exact ⟨_, _, rfl, q⟩
/-- x = e, by its value's name -/
theorem Rf.setT {i : Nat} {m : M D} {t : β} {K : β → Option α} (e : β → D) (he : m z = some (e t, ⟨s, h⟩)) (hp : ∀ x, isPure (e x) = true) {s' : β → List Sl} (hs : ∀ x, s.set i (.val (e x)) = s' x) (k : ∀ x, Rf (K x) rest ⟨s' x, h⟩ Φ) : Rf ((some t).bind K) (C.seq (C.set i m) rest) z Φ :=
  (k t).nx (cs_setN he (hp t) (hs t))
theorem Rf.set0 {i : Nat} {m : M D} {d : D} (he : m z = some (d, ⟨s, h⟩)) (hp : isPure d = true) (hs : s.set i (.val d) = s') (k : Rf o rest ⟨s', h⟩ Φ) : Rf o (C.seq (C.set i m) rest) z Φ :=
  k.nx (cs_setN he hp hs)
theorem Rf.asg0 {g : G} {m : M D} {d : D} (he : m z = some (d, z1)) (hp : isPure d = true) (hg : g.run d z1 = some z2) (k : Rf o rest z2 Φ) : Rf o (C.seq (C.asg g m) rest) z Φ :=
  k.nx (cs_asg he hp hg)
theorem Rf.own0 {i : Nat} {m : M (List D)} {ds : List D} (he : m z = some (ds, ⟨s, h⟩)) (hn : i < s.length) (hs : s.set i (.own (.lst ds)) = s') (k : Rf o rest ⟨s', h⟩ Φ) : Rf o (C.seq (C.own i m) rest) z Φ :=
  k.nx (cs_ownN he hn hs)
theorem Rf.ownT {i : Nat} {m : M (List D)} {t : List β} {K : List β → Option α} (e : β → D) (he : m z = some (t.map e, ⟨s, h⟩)) (hn : i < s.length) {s' : List β → List Sl} (hs : ∀ x : List β, s.set i (.own (.lst (x.map e))) = s' x) (k : ∀ x, Rf (K x) rest ⟨s' x, h⟩ Φ) : Rf ((some t).bind K) (C.seq (C.own i m) rest) z Φ :=
  (k t).nx (cs_ownN he hn (hs t))
theorem Rf.frz {i : Nat} {ds : List D} (h1 : s[i]? = some (.own (.lst ds))) (hs : s.set i (.val (.lst ds)) = s') (k : Rf o rest ⟨s', h⟩ Φ) : Rf o (C.seq (C.frz i) rest) ⟨s, h⟩ Φ :=
  k.nx (cs_frzN h1 hs)
theorem Rf.drop {m : M D} {d : D} (he : m z = some (d, z1)) (k : Rf o rest z1 Φ) : Rf o (C.seq (C.drop m) rest) z Φ := k.nx (cs_drop he)
/-- xs.append(e) of a list that a slot owns -/
theorem Rf.app {i : Nat} {m : M D} {xs : List β} {t : β} {K : List β → Option α} (e : β → D) (hi : s[i]? = some (.own (.lst (xs.map e)))) (hm : m ⟨s, h⟩ = some (e t, ⟨s, h1⟩)) (hp : isPure (e t) = true) {s' : List β → List Sl} (hs : ∀ ys : List β, s.set i (.own (.lst (ys.map e))) = s' ys) (k : ∀ ys, Rf (K ys) rest ⟨s' ys, h1⟩ Φ) :
    Rf ((Pl.app xs t).bind K) (C.seq (C.drop (E.chg U.append (E.var i) [m])) rest) ⟨s, h⟩ Φ := Rf.bd fun ys hy => by
  unfold Pl.app at hy
  split at hy
  · rename_i hl
    cases hy
    refine (k (xs ++ [t])).nx (cs_drop (ev_chgN (ev_varO hi) hi (ev_args hm ev_args0 hp) hi (?_ : U.append _ _ = some (.non, (xs ++ [t]).map e)) (hs _)))
    unfold U.append
    dsimp only
    rw [if_pos (by rw [List.length_map]; exact hl), List.map_append]
    rfl
  · cases hy
/-- xs.extend(ys) -/
theorem Rf.ext {i : Nat} {m : M D} {xs t : List β} {K : List β → Option α} (e : β → D) (hi : s[i]? = some (.own (.lst (xs.map e)))) (hm : m ⟨s, h⟩ = some (.lst (t.map e), ⟨s, h1⟩)) {s' : List β → List Sl} (hs : ∀ ys : List β, s.set i (.own (.lst (ys.map e))) = s' ys) (k : ∀ ys, Rf (K ys) rest ⟨s' ys, h1⟩ Φ) :
    Rf ((Pl.cat xs t).bind K) (C.seq (C.drop (E.chg U.extend (E.var i) [m])) rest) ⟨s, h⟩ Φ := Rf.bd fun ys hy => by
  unfold Pl.cat at hy
  split at hy
  · rename_i hl
    cases hy
    refine (k (xs ++ t)).nx (cs_drop (ev_chgN (ev_varO hi) hi (ev_args hm ev_args0 rfl) hi (?_ : U.extend _ _ = some (.non, (xs ++ t).map e)) (hs _)))
    unfold U.extend
    dsimp only
    rw [if_pos (by rw [List.length_map, List.length_map]; exact hl), List.map_append]
  · cases hy
theorem Rf.ret {m : M D} {d : D} {r : α} (he : m z = some (d, z1)) (hp : isPure d = true) (q : Φ r (.rt d) z1) : Rf (some r) (C.seq (C.ret m) rest) z Φ := fun r' e => by
  cases e
  exact ⟨_, _, cs_rt (cs_ret he hp), q⟩
/-- .. of a list that a slot owns -/
theorem Rf.retO {n : Nat} {m : M D} {ds : List D} {r : α} (he : m z = some (.own n, ⟨s, h⟩)) (hn : s[n]? = some (.own (.lst ds))) (q : Φ r (.rt (.lst ds)) ⟨s.set n .no, h⟩) : Rf (some r) (C.seq (C.ret m) rest) z Φ := fun r' e => by
  cases e
  exact ⟨_, _, cs_rt (cs_retO he hn), q⟩
theorem Rf.brk {r : α} (q : Φ r .bk z) : Rf (some r) (C.seq C.brk rest) z Φ := fun r' e => by
  cases e
  exact ⟨_, _, cs_bk rfl, q⟩
theorem Rf.cnt {r : α} (q : Φ r .ct z) : Rf (some r) (C.seq C.cnt rest) z Φ := fun r' e => by
  cases e
  exact ⟨_, _, cs_ct rfl, q⟩
theorem ite_seq {t : M Bool} {p : Bool} (ht : t z = some (p, z1)) : C.seq (C.ite t a b) rest z = if p = true then C.seq a rest z1 else C.seq b rest z1 := by
  cases p with
  | true => rw [if_pos rfl]; unfold C.seq C.ite bnd; rw [ht]; rfl
  | false => rw [if_neg (by decide)]; unfold C.seq C.ite bnd; rw [ht]; rfl
theorem Rf.ite {t : M Bool} {p : Bool} {oA oB : Option α} (ht : t z = some (p, z1)) (hA : Rf oA (C.seq a rest) z1 Φ) (hB : Rf oB (C.seq b rest) z1 Φ) : Rf (if p = true then oA else oB) (C.seq (C.ite t a b) rest) z Φ := fun r e => by
  rw [ite_seq ht]
  cases p with
  | true => exact hA r e
  | false => exact hB r e
/-- a part, then on -/
theorem Rf.thn {o : Option β} {K : β → Option α} (J : β → Z → Prop) (h1 : Rf o a z fun v f z' => f = .nx ∧ J v z') (k : ∀ v z', J v z' → Rf (K v) rest z' Φ) : Rf (o.bind K) (C.seq a rest) z Φ := fun r e => by
  obtain ⟨t, e1, e2⟩ := bI e
  obtain ⟨f, z', e3, rfl, q⟩ := h1 t e1
  obtain ⟨f2, z2, e4, q2⟩ := k t z' q r e2
  exact ⟨f2, z2, by rw [seq_nx e3]; exact e4, q2⟩
/-- .. that may end all -/
theorem Rf.thnO {o : Option (β ⊕ ρ)} {K : β ⊕ ρ → Option α} (J : β → Z → Prop) (RT : ρ → Fl → Z → Prop) (h1 : Rf o a z fun v f z' => match v with | .inl v => f = .nx ∧ J v z' | .inr r => (∃ d, f = .rt d) ∧ RT r f z') (k : ∀ v z', J v z' → Rf (K (.inl v)) rest z' Φ)
    (q : ∀ r r' f z', K (.inr r) = some r' → (∃ d, f = .rt d) ∧ RT r f z' → Φ r' f z') : Rf (o.bind K) (C.seq a rest) z Φ := fun r e => by
  obtain ⟨t, e1, e2⟩ := bI e
  obtain ⟨f, z', e3, p⟩ := h1 t e1
  cases t with
  | inl v =>
    obtain ⟨rfl, p⟩ := p
    obtain ⟨f2, z2, e4, q2⟩ := k v z' p r e2
    exact ⟨f2, z2, by rw [seq_nx e3]; exact e4, q2⟩
  | inr u =>
    have q2 := q u r f z' e2 p
    obtain ⟨⟨d, rfl⟩, _⟩ := p
    exact ⟨_, _, cs_rt e3, q2⟩
theorem Rf.loopN {it : It} {g : G} {f : β → σ → Option σ} (hk : it.chk = none) (e : β → D) (J : σ → Z → Prop) (step : ∀ x v z, J v z → ∃ z1, g.run (e x) z = some z1 ∧ Rf (f x v) b z1 fun v f z' => (f = .nx ∨ f = .ct) ∧ J v z') : ∀ (xs : List β) (v : σ) (z : Z), J v z → Rf (Pl.forN f xs v) (C.loop it g b (xs.map e)) z fun v f z' => f = .nx ∧ J v z'
  | [], v, z, j => fun r q => by
    cases q
    exact ⟨_, _, loop_nil hk, rfl, j⟩
  | x :: xs, v, z, j => fun r q => by
    obtain ⟨t, q1, q2⟩ := bI (show (f x v).bind (fun s => Pl.forN f xs s) = some r from q)
    obtain ⟨z1, g1, w⟩ := step x v z j
    obtain ⟨fl, z2, w1, w2, j2⟩ := w t q1
    obtain ⟨f3, z3, w3, w4⟩ := Rf.loopN hk e J step xs t z2 j2 r q2
    refine ⟨f3, z3, ?_, w4⟩
    rw [List.map_cons]
    rcases w2 with rfl | rfl
    · exact loop_cons hk g1 w1 w3
    · exact loop_cons hk g1 w1 w3
theorem Rf.forN {mi : M It} {g : G} {f : β → σ → Option σ} {xs : List β} {v : σ} (e : β → D) (J : σ → Z → Prop) (hm : mi z = some (⟨xs.map e, none⟩, z1)) (h0 : J v z1) (step : ∀ x v z, J v z → ∃ z1, g.run (e x) z = some z1 ∧ Rf (f x v) b z1 fun v f z' => (f = .nx ∨ f = .ct) ∧ J v z') : Rf (Pl.forN f xs v) (C.for_ mi g b) z fun v f z' => f = .nx ∧ J v z' := fun r q => by
  obtain ⟨f3, z3, w3, w4⟩ := Rf.loopN (it := ⟨xs.map e, none⟩) rfl e J step xs v z1 h0 r q
  exact ⟨f3, z3, cs_for hm w3, w4⟩
theorem Rf.loopO {it : It} {g : G} {f : β → σ → Option (Pl.Out σ ρ)} (hk : it.chk = none) (e : β → D) (J : σ → Z → Prop) (RT : ρ → Fl → Z → Prop) (step : ∀ x v z, J v z → ∃ z1, g.run (e x) z = some z1 ∧ Rf (f x v) b z1 fun v f z' => match v with | .go v => (f = .nx ∨ f = .ct) ∧ J v z' | .brk v => f = .bk ∧ J v z' | .ret r => (∃ d, f = .rt d) ∧ RT r f z') :
    ∀ (xs : List β) (v : σ) (z : Z), J v z → Rf (Pl.forO f xs v) (C.loop it g b (xs.map e)) z fun v f z' => match v with | .inl v => f = .nx ∧ J v z' | .inr r => (∃ d, f = .rt d) ∧ RT r f z'
  | [], v, z, j => fun r q => by
    cases q
    exact ⟨_, _, loop_nil hk, rfl, j⟩
  | x :: xs, v, z, j => fun r q => by
    obtain ⟨z1, g1, w⟩ := step x v z j
    rw [Pl.forO] at q
    rw [List.map_cons]
    cases hf : f x v with
    | none => rw [hf] at q; cases q
    | some u =>
      rw [hf] at q
      obtain ⟨fl, z2, w1, w2⟩ := w u hf
      cases u with
      | go v2 =>
        obtain ⟨w2, j2⟩ := w2
        obtain ⟨f3, z3, w3, w4⟩ := Rf.loopO hk e J RT step xs v2 z2 j2 r q
        refine ⟨f3, z3, ?_, w4⟩
        rcases w2 with rfl | rfl
        · exact loop_cons hk g1 w1 w3
        · exact loop_cons hk g1 w1 w3
      | brk v2 =>
        obtain ⟨rfl, j2⟩ := w2
        cases q
        exact ⟨_, _, loop_cons hk g1 w1 rfl, rfl, j2⟩
      | ret r2 =>
        cases q
        have w3 := w2
        obtain ⟨⟨d, rfl⟩, _⟩ := w2
        exact ⟨_, _, loop_cons hk g1 w1 rfl, w3⟩
theorem Rf.forO {mi : M It} {g : G} {f : β → σ → Option (Pl.Out σ ρ)} {xs : List β} {v : σ} (e : β → D) (J : σ → Z → Prop) (RT : ρ → Fl → Z → Prop) (hm : mi z = some (⟨xs.map e, none⟩, z1)) (h0 : J v z1) (step : ∀ x v z, J v z → ∃ z1, g.run (e x) z = some z1 ∧ Rf (f x v) b z1 fun v f z' => match v with | .go v => (f = .nx ∨ f = .ct) ∧ J v z' | .brk v => f = .bk ∧ J v z' | .ret r => (∃ d, f = .rt d) ∧ RT r f z') :
    Rf (Pl.forO f xs v) (C.for_ mi g b) z fun v f z' => match v with | .inl v => f = .nx ∧ J v z' | .inr r => (∃ d, f = .rt d) ∧ RT r f z' := fun r q => by
  obtain ⟨f3, z3, w3, w4⟩ := Rf.loopO (it := ⟨xs.map e, none⟩) rfl e J RT step xs v z1 h0 r q
  exact ⟨f3, z3, cs_for hm w3, w4⟩
theorem Rf.whO {tt : M Bool} {t : σ → Option Bool} {f : σ → Option (Pl.Out σ ρ)} {v : σ} (J : σ → Z → Prop) (RT : ρ → Fl → Z → Prop) (test : ∀ v z, J v z → ∀ p, t v = some p → ∃ z1, tt z = some (p, z1) ∧ J v z1) (step : ∀ v z, J v z → Rf (f v) b z fun v f z' => match v with | .go v => (f = .nx ∨ f = .ct) ∧ J v z' | .brk v => f = .bk ∧ J v z' | .ret r => (∃ d, f = .rt d) ∧ RT r f z') (h0 : J v z) :
    Rf (Pl.whO t f v) (C.whl tt b) z fun v f z' => match v with | .inl v => f = .nx ∧ J v z' | .inr r => (∃ d, f = .rt d) ∧ RT r f z' := fun r q => by
  have key := Pl.whO.partial_correctness t f (fun v r => ∀ z, J v z → ∃ fl z', C.whl tt b z = some (fl, z') ∧ match r with | .inl v => fl = .nx ∧ J v z' | .inr r => (∃ d, fl = .rt d) ∧ RT r fl z') (fun W ih v r e z j => by
    cases ht : t v with
    | none => rw [ht] at e; cases e
    | some p =>
      rw [ht] at e
      obtain ⟨z1, w1, j1⟩ := test v z j p ht
      cases p with
      | false =>
        cases e
        exact ⟨_, _, whl_f w1, rfl, j1⟩
      | true =>
        dsimp only at e
        cases hf : f v with
        | none => rw [hf] at e; cases e
        | some u =>
          rw [hf] at e
          obtain ⟨fl, z2, w2, w3⟩ := step v z1 j1 u hf
          cases u with
          | go v2 =>
            obtain ⟨w3, j2⟩ := w3
            obtain ⟨f3, z3, w4, w5⟩ := ih v2 r e z2 j2
            refine ⟨f3, z3, ?_, w5⟩
            rw [C.whl, w1]
            dsimp only
            rw [w2]
            rcases w3 with rfl | rfl
            · exact w4
            · exact w4
          | brk v2 =>
            obtain ⟨rfl, j2⟩ := w3
            cases e
            exact ⟨_, _, whl_bk w1 w2, rfl, j2⟩
          | ret r2 =>
            cases e
            have w4 := w3
            obtain ⟨⟨d, rfl⟩, _⟩ := w3
            exact ⟨_, _, whl_rt w1 w2, w4⟩)
  exact key v r q z h0
theorem Rf.fn {n k : Nat} {ds : List D} {e : α → D} {hp : α → List D} {r : α} (hl : ds.length = k) (hs : slots n ds = s) (hb : Rf o c ⟨s, h⟩ fun r f z' => (f = .rt (e r) ∨ (f = .nx ∧ e r = .non)) ∧ z'.h = hp r) (hr : o = some r) : Mi.fn n k c ds h = some (e r, hp r) := by
  obtain ⟨f, z', e1, q, q2⟩ := hb r hr
  unfold Mi.fn
  rw [if_pos hl, hs, e1]
  rcases q with rfl | ⟨rfl, q⟩
  · rw [← q2]
  · rw [← q2, q]
end
section
variable {α β γ : Type} {x y d : D} {a b m : M D} {t u : M Bool} {z z1 z2 : Z} {s s' s2 : List Sl} {h h1 : List D} {i j k : Int} {p q : Bool}
theorem ev_mulP (h1 : a z = some (.int i, z1)) (h2 : b z1 = some (.int j, z2)) (e : Pl.mul i j = some k) : E.op O.mul a b z = some (.int k, z2) := by
  unfold Pl.mul at e
  split at e
  · rename_i c
    cases e
    exact ev_op h1 h2 (mul_v c.1 c.2)
  · cases e
theorem atI_map {xs : List α} {e : α → D} {r : α} (h : Pl.at_ xs i = some r) : atI (xs.map e) i = some (e r) := by
  unfold Pl.at_ atI at h
  unfold atI
  rw [List.length_map]
  cases hn : ixN xs.length i with
  | none => rw [hn] at h; cases h
  | some n =>
    rw [hn] at h
    have h : xs[n]? = some r := h
    show (xs.map e)[n]? = _
    rw [List.getElem?_map, h]
    rfl
theorem ev_ixP {tt : Bool} {xs : List α} {e : α → D} {r : α} (h1 : a z = some (x, z1)) (h2 : b z1 = some (.int i, z2)) (h3 : cont x z2 = some (tt, xs.map e)) (h4 : Pl.at_ xs i = some r) : E.op O.ix a b z = some (e r, z2) := ev_ix h1 h2 h3 (atI_map h4)
theorem tt_andO {o : Option Bool} {r : Bool} (h1 : t z = some (p, z)) (h2 : ∀ q, o = some q → u z = some (q, z)) (e : Pl.andO p o = some r) : T.and t u z = some (r, z) := by
  unfold Pl.andO at e
  cases p with
  | true => rw [tt_and h1 fun _ => h2 r e]; rfl
  | false => cases e; rw [tt_and (q := true) h1 fun h => nomatch h]; rfl
theorem tt_orO {o : Option Bool} {r : Bool} (h1 : t z = some (p, z)) (h2 : ∀ q, o = some q → u z = some (q, z)) (e : Pl.orO p o = some r) : T.or t u z = some (r, z) := by
  unfold Pl.orO at e
  cases p with
  | true => cases e; rw [tt_or (q := true) h1 fun h => nomatch h]; rfl
  | false => rw [tt_or h1 fun _ => h2 r e]; rfl
/-- what is not None is what it is -/
theorem ev_unO {e : α → D} {o : Option α} {r : α} (h1 : m z = some (eO e o, z1)) (hr : o = some r) : m z = some (e r, z1) := by subst hr; exact h1
theorem nonE {e : α → D} (he : ∀ x, isNon (e x) = false) (o : Option α) : isNon (eO e o) = o.isNone := by
  cases o with
  | none => rfl
  | some x => exact he x
theorem notNonE {e : α → D} (he : ∀ x, isNon (e x) = false) (o : Option α) : (!isNon (eO e o)) = o.isSome := by
  cases o with
  | none => rfl
  | some x => exact congrArg not (he x)
theorem pureO {e : α → D} (he : ∀ x, isPure (e x) = true) (o : Option α) : isPure (eO e o) = true := by
  cases o with
  | none => rfl
  | some x => exact he x
theorem ev_rngP1 {ma : M D} {r : List Int} (h1 : ma z = some (.int j, z1)) (hr : Pl.rngO 0 j = some r) : I.rng1 ma z = some (⟨r.map eI, none⟩, z1) := by
  unfold Pl.rngO at hr
  split at hr
  · rename_i c
    cases hr
    rw [ev_rng1 h1 c.2]
    unfold I.irng Pl.rng
    rw [List.map_map, Int.sub_zero]
    rfl
  · cases hr
theorem ev_itsP {xs : List α} {e : α → D} (h1 : a z = some (x, z1)) (h2 : itemsOf x = some (xs.map e)) : I.seq a z = some (⟨xs.map e, none⟩, z1) := ev_seq h1 h2
theorem ev_itsC {xs : List α} {e : α → D} (h1 : a z = some (x, z1)) (h2 : itemsOf x = some (xs.map e)) : I.seqC a z = some (⟨xs.map e, none⟩, z1) := ev_seqC h1 h2
theorem F_lenM {xs : List α} {e : α → D} {tt : Bool} (h : cont x z = some (tt, xs.map e)) : F.len [x] z = some (.int xs.length) := by
  rw [lf_len h, List.length_map]
theorem tru_own {xs : List α} {e : α → D} {n : Nat} (h : z.s[n]? = some (.own (.lst (xs.map e)))) : O.tru (.own n) z = some (!xs.isEmpty) := by
  unfold O.tru cont
  dsimp only
  rw [h]
  cases xs <;> rfl
theorem ofInts_map (ns : List Int) : F.ofInts (ns.map eI) = some ns := by
  induction ns with
  | nil => rfl
  | cons b bs ih => rw [List.map_cons, F.ofInts, ih]; rfl
theorem F_sum {ns : List Int} (h : cont x z = some (false, ns.map eI)) : F.sum [x] z = some (.int ns.sum) := by
  show (F.lstI x z).map (fun ns => D.int ns.sum) = _
  unfold F.lstI
  rw [h]
  dsimp only
  rw [ofInts_map]; rfl
theorem F_minR {ns : List Int} {tt : Bool} {r : Int} (h : cont x z = some (tt, ns.map eI)) (hr : F.minL ns = some r) : F.minR [x] z = some (.int r) := by
  cases ns with
  | nil => cases hr
  | cons n ns =>
    cases hr
    exact lf_minR h (ofInts_map (n :: ns))
end
section
variable {α β σ : Type} {z z1 : Z} {s s' s2 : List Sl} {h : List D}
theorem cmp_loop {it : It} {g : G} {vs : List Nat} {tt : M Bool} {te : M D} {t : α → Option Bool} {f : α → Option β} (e : α → D) (e' : β → D) (ok : it.ok ⟨s', h⟩ = true)
    (step : ∀ x, ∃ za sa, g.run (e x) ⟨s', h⟩ = some za ∧ (∀ b, t x = some b → tt za = some (b, ⟨sa, h⟩)) ∧ N.wipe sa vs = s' ∧ (∀ y, f x = some y → ∃ sb, te ⟨sa, h⟩ = some (e' y, ⟨sb, h⟩) ∧ isPure (e' y) = true ∧ N.wipe sb vs = s')) :
    ∀ (xs : List α) (acc : List D) (ys : List β), Pl.cmp t f xs = some ys → N.loop it g vs tt te (xs.map e) acc ⟨s', h⟩ = some (acc ++ ys.map e', ⟨s', h⟩)
  | [], acc, ys, q => by
    cases q
    rw [List.map_nil, N.loop, if_pos ok, List.map_nil, List.append_nil]
  | x :: xs, acc, ys, q => by
    obtain ⟨za, sa, g1, t1, w1, f1⟩ := step x
    obtain ⟨b, q1, q2⟩ := bI (show (t x).bind _ = some ys from q)
    rw [List.map_cons, N.loop, if_pos ok, g1]
    dsimp only
    rw [t1 b q1]
    cases b with
    | false =>
      dsimp only
      rw [w1]
      exact cmp_loop e e' ok step xs acc ys q2
    | true =>
      obtain ⟨y, q3, q4⟩ := bI (show (f x).bind _ = some ys from q2)
      obtain ⟨ys2, q5, q6⟩ := bI q4
      cases q6
      obtain ⟨sb, f2, f3, f4⟩ := f1 y q3
      dsimp only
      rw [f2]
      dsimp only
      rw [if_pos f3, f4, cmp_loop e e' ok step xs _ ys2 q5, List.append_assoc]
      rfl
theorem ev_cmp {mi : M It} {chk : Option D} {g : G} {vs : List Nat} {tt : M Bool} {te : M D} {t : α → Option Bool} {f : α → Option β} {xs : List α} {ys : List β} (e : α → D) (e' : β → D) (hm : mi z = some (⟨xs.map e, chk⟩, ⟨s, h⟩)) (ho : (vs.all fun v => !N.isOwn s[v]?) = true) (hw : N.wipe s vs = s') (ok : (⟨xs.map e, chk⟩ : It).ok ⟨s', h⟩ = true) (hr : N.rest s s' vs = s2)
    (step : ∀ x, ∃ za sa, g.run (e x) ⟨s', h⟩ = some za ∧ (∀ b, t x = some b → tt za = some (b, ⟨sa, h⟩)) ∧ N.wipe sa vs = s' ∧ (∀ y, f x = some y → ∃ sb, te ⟨sa, h⟩ = some (e' y, ⟨sb, h⟩) ∧ isPure (e' y) = true ∧ N.wipe sb vs = s'))
    (q : Pl.comp t f xs = some ys) : N.comp mi g vs tt te z = some (ys.map e', ⟨s2, h⟩) := by
  unfold Pl.comp at q
  split at q
  · rename_i hl
    have k := cmp_loop e e' ok step xs [] ys q
    rw [List.nil_append] at k
    exact ev_compN hm (by rw [List.length_map]; exact hl) ho hw k hr
  · cases q
end
end Mi
set_option Elab.async false
set_option linter.all false
set_option maxRecDepth 100000
namespace Mi
open PySem PySem.Spec PyProof.Rows L2 PySem.W
def intAt (xs : List D) (i : Nat) : Option Int := match xs[i]? with
  | some (D.int n) => some n
  | _ => none
theorem alike_ints : ∀ ns ms : List Int, alikeAll (ns.map PyData.int) (ms.map PyData.int) = true
  | [], _ => rfl
  | _ :: _, [] => rfl
  | n :: ns, m :: ms => by
    rw [List.map_cons, List.map_cons, alikeAll, alike, alike_ints ns ms]
    rfl
section
variable {prog : Program} {w : World} {A : Around} {E : Value → Shared → Prop} {s : Shared} {env : Env} {m : Str → Option Value} {x : Str} {t : Addr} {its : Array Value}
/-- which numbers stand at the places -/
def IntsAt (its : Array Value) : List Nat → List Int → List Value → Prop
  | [], [], [] => True
  | i :: iz, n :: ns, v :: vs => (∃ tk, v = .int n tk ∧ its[i]? = some v) ∧ IntsAt its iz ns vs
  | _, _, _ => False
theorem IntsAt.ints {its : Array Value} : ∀ {iz : List Nat} {ns : List Int} {vs : List Value} {h : Heap}, IntsAt its iz ns vs → ReadsAll h vs (ns.map PyData.int) []
  | [], [], [], _, _ => .nil
  | i :: iz, n :: ns, v :: vs, h, ⟨⟨tk, e, _⟩, r⟩ => by
    subst e
    exact ReadsAll.cons (as := []) (bs := []) (.int n tk) (IntsAt.ints r)
end
def Made (P : Addr) (q : Str) (H H1 : Hp) : Prop := H1 = H ∨ ∃ (ps more : Array Value) (cn : Addr), H P = some (.tbl ps) ∧ H cn = none ∧ H1 = upd (upd H P (.tbl (ps ++ more))) cn (LamX.CodeO cn q) ∧ TriplesOk (ps ++ more).toList ∧
  ∀ (pos : Pos) (cv : Value), codeAmong pos (ps ++ more).toList = some cv → codeAmong pos ps.toList = some cv ∨ cv = .ref cn
theorem Made.keep {P : Addr} {q : Str} {H H1 : Hp} (m : Made P q H H1) {b : Addr} {o : HO} (e : H b = some o) (n : b ≠ P) : H1 b = some o := by
  rcases m with rfl | ⟨ps, more, cn, hP, hc, rfl, _, _⟩
  · exact e
  · rw [upd_ne (ne_of_none e hc), upd_ne n]
    exact e
def IntsV (ys : List V) : List Nat → List Int → Prop
  | [], [] => True
  | i :: iz, n :: ns => ys[i]? = some (.int n) ∧ IntsV ys iz ns
  | _, _ => False
theorem IntsV.raw {ys : List V} {its : List Value} (r : Vals ys its) : ∀ {iz : List Nat} {ns : List Int}, IntsV ys iz ns → ∃ vs, IntsAt its.toArray iz ns vs ∧ vs.length = iz.length
  | [], [], _ => ⟨[], trivial, rfl⟩
  | i :: iz, n :: ns, ⟨h1, h2⟩ => by
    obtain ⟨vs, h3, h4⟩ := IntsV.raw r h2
    obtain ⟨u, e, ru⟩ := r.get h1
    obtain ⟨tk, rfl⟩ := ru
    exact ⟨.int n tk :: vs, ⟨⟨tk, rfl, by simpa using e⟩, h3⟩, by rw [List.length_cons, List.length_cons, h4]⟩
theorem IntsV.of {K : Kx} {F : Hp} {rho : List Addr} {xs : List D} {ys : List V} (r : Rps K F rho xs ys) : ∀ {iz : List Nat} {ns : List Int}, iz.mapM (intAt xs) = some ns → IntsV ys iz ns
  | [], ns, h => by
    rw [List.mapM_nil] at h
    cases h
    trivial
  | i :: iz, ns, h => by
    rw [List.mapM_cons] at h
    obtain ⟨n, h1, h2⟩ := bI h
    obtain ⟨ms, h3, h4⟩ := bI h2
    cases h4
    refine ⟨?_, IntsV.of r h3⟩
    unfold intAt at h1
    split at h1
    · rename_i k hx
      cases h1
      obtain ⟨v, e1, e2⟩ := r.get hx
      cases e2
      exact e1
    · cases h1
theorem fnD_ok {P : Program} {w : World} {K : Kx} {mg : Str → Option Value} {base : Heap} {x qual : Str} {params : Arguments} {body : List Stmt} {scope : Scope} {dvs : List V} {kws : List (Str × V)} {f : Addr} {fd : FuncData} {N ps : List Str} {k n kk : Nat} {b : C} (F : FunD K x qual params body scope dvs kws f fd) (S : FnScope N ps scope) (hn : N.length = n) (hk : ps.length = kk)
    (hb : ∀ (A : Around) (outer : List Env) (s : Shared) (H : Hp) (E : XK), Room k (A.deeper (envOfC qual scope s.heap.objs.size f fd.code)) → PSs (cxOf CX0 P w K mg base N qual scope f fd.code A outer s H E).nox body (Ts K b)) :
    FnOk P w K mg base CX0 (k + 1) f fd ps (spM kk K (fn n kk b)) := by
  subst hn hk
  obtain ⟨oc, od, dV, kV, doc, pm, an, cdv, ct, osl, rfl, lk, hcd, _, _⟩ := F.ex
  exact fn_of lk hcd S (fun vs H Q E h => h.1) fun A outer s H vs Q E hr h => ⟨_, (hb A outer s H E hr).nox, fn_body S h⟩
end Mi
set_option Elab.async false
set_option linter.all false
set_option maxRecDepth 100000
namespace Mi
open PySem PySem.W PySem.Spec PyProof.Rows L2
/-- all names of shared objects in d are below m -/
def blw : Nat → Nat → D → Bool
  | _, _, .non => true
  | _, _, .bl _ => true
  | _, _, .int _ => true
  | _, _, .str _ => true
  | 0, _, _ => false
  | n + 1, m, .tup xs => xs.all (blw n m)
  | n + 1, m, .kt xs => xs.all (blw n m)
  | n + 1, m, .lst xs => xs.all (blw n m)
  | n + 1, m, .scr xs => xs.all (blw n m)
  | n + 1, m, .dk kvs => kvs.all fun kv => blw n m kv.2
  | n + 1, m, .dt kvs => kvs.all fun kv => blw n m kv.2
  | n + 1, m, .ins _ fs => fs.all fun kv => blw n m kv.2
  | _ + 1, m, .ref k => decide (k < m)
  | _ + 1, _, .own _ => false
section
variable {K : Kx} {F F' F2 F0 : Hp} {rho t : List Addr}
theorem Rps.conv {rho2 : List Addr} {f : D → D} : ∀ {ds : List D} {vs : List V}, (∀ d ∈ ds, ∀ v, Rp K F rho d v → Rp K F2 rho2 (f d) v) → Rps K F rho ds vs → Rps K F2 rho2 (ds.map f) vs
  | _, _, _, .nil => .nil
  | _, _, h, .cons r rs => .cons (h _ List.mem_cons_self _ r) (Rps.conv (fun d hd => h d (List.mem_cons_of_mem _ hd)) rs)
theorem Rps.conv1 {rho2 : List Addr} {ds : List D} {vs : List V} (h : ∀ d ∈ ds, ∀ v, Rp K F rho d v → Rp K F2 rho2 d v) (r : Rps K F rho ds vs) : Rps K F2 rho2 ds vs := by
  have := Rps.conv (f := id) h r
  rwa [List.map_id] at this
theorem pre_short {n : Nat} {a : Addr} (h : n < rho.length) (e : (rho ++ t)[n]? = some a) : rho[n]? = some a := by
  rw [← e, List.getElem?_append_left h]
theorem Rp.blw {m : Nat} (hm : rho.length = m) : ∀ (n : Nat) {d : D} {v : V}, Mi.blw n m d = true → Rp K F (rho ++ t) d v → Rp K F rho d v := by
  intro n
  induction n with
  | zero =>
    intro d v h r
    cases r <;> first | exact .non | exact .bl _ | exact .int _ | exact .str _ | (simp [Mi.blw] at h)
  | succ n ih =>
    intro d v h r
    have ls : ∀ {ds : List D} {vs : List V}, ds.all (Mi.blw n m) = true → Rps K F (rho ++ t) ds vs → Rps K F rho ds vs := fun {ds vs} hd rs => Rps.conv1 (fun d hd2 v r => ih (List.all_eq_true.mp hd d hd2) r) rs
    have al : ∀ {κ : Type} {kvs : List (κ × D)}, (kvs.all fun kv => Mi.blw n m kv.2) = true → (kvs.map Prod.snd).all (Mi.blw n m) = true := fun {κ kvs} h => by
      rw [List.all_map]
      exact h
    cases r with
    | non => exact .non
    | bl b => exact .bl b
    | int i => exact .int i
    | str x => exact .str x
    | tup e r => exact .tup e (ls (by simpa only [Mi.blw] using h) r)
    | kt e r => exact .kt e (ls (by simpa only [Mi.blw] using h) r)
    | lst e r => exact .lst e (ls (by simpa only [Mi.blw] using h) r)
    | scr e r => exact .scr e (ls (by simpa only [Mi.blw] using h) r)
    | ref e =>
      simp only [Mi.blw, decide_eq_true_eq] at h
      exact .ref (pre_short (by omega) e)
    | dk e k r => exact .dk e k (ls (al (by simpa only [Mi.blw] using h)) r)
    | dt e k r => exact .dt e k (ls (al (by simpa only [Mi.blw] using h)) r)
    | ins c e k r => exact .ins c e k (ls (al (by simpa only [Mi.blw] using h)) r)
end
mutual
def calm : D → Bool
  | .tup xs => calms xs
  | .kt xs => calms xs
  | .lst xs => calms xs
  | .non => true
  | .bl _ => true
  | .int _ => true
  | .str _ => true
  | _ => false
def calms : List D → Bool
  | [] => true
  | x :: xs => calm x && calms xs
end
section
variable {K : Kx} {F F' F0 : Hp} {rho t : List Addr}
mutual
theorem Rp.calm : ∀ {d : D} {v : V}, Mi.calm d = true → Rp K F (rho ++ t) d v → Rp K F rho d v
  | _, _, _, .non => .non
  | _, _, _, .bl b => .bl b
  | _, _, _, .int i => .int i
  | _, _, _, .str x => .str x
  | _, _, h, .tup e r => .tup e (Rps.calm (by rw [Mi.calm] at h; exact h) r)
  | _, _, h, .kt e r => .kt e (Rps.calm (by rw [Mi.calm] at h; exact h) r)
  | _, _, h, .lst e r => .lst e (Rps.calm (by rw [Mi.calm] at h; exact h) r)
  | _, _, h, .scr e r => by rw [Mi.calm] at h <;> first | cases h | (intros; contradiction)
  | _, _, h, .ref e => by rw [Mi.calm] at h <;> first | cases h | (intros; contradiction)
  | _, _, h, .dk e k r => by rw [Mi.calm] at h <;> first | cases h | (intros; contradiction)
  | _, _, h, .dt e k r => by rw [Mi.calm] at h <;> first | cases h | (intros; contradiction)
  | _, _, h, .ins m e k r => by rw [Mi.calm] at h <;> first | cases h | (intros; contradiction)
theorem Rps.calm : ∀ {ds : List D} {vs : List V}, Mi.calms ds = true → Rps K F (rho ++ t) ds vs → Rps K F rho ds vs
  | _, _, _, .nil => .nil
  | _, _, h, .cons r rs => by
    rw [Mi.calms, Bool.and_eq_true] at h
    exact .cons (Rp.calm h.1 r) (Rps.calm h.2 rs)
end
mutual
theorem Rp.short : ∀ {d : D} {v0 v : V}, Rp K F0 rho d v0 → Rp K F (rho ++ t) d v → Rp K F rho d v
  | _, _, _, .non, .non => .non
  | _, _, _, .bl _, .bl b => .bl b
  | _, _, _, .int _, .int i => .int i
  | _, _, _, .str _, .str x => .str x
  | _, _, _, .tup _ r0, .tup e r => .tup e (Rps.short r0 r)
  | _, _, _, .kt _ r0, .kt e r => .kt e (Rps.short r0 r)
  | _, _, _, .lst _ r0, .lst e r => .lst e (Rps.short r0 r)
  | _, _, _, .scr _ r0, .scr e r => .scr e (Rps.short r0 r)
  | _, _, _, .ref e0, .ref e => .ref (by rw [← e, List.getElem?_append_left (List.getElem?_eq_some_iff.mp e0).1])
  | _, _, _, .dk _ _ r0, .dk e k r => .dk e k (Rps.short r0 r)
  | _, _, _, .dt _ _ r0, .dt e k r => .dt e k (Rps.short r0 r)
  | _, _, _, .ins _ _ _ r0, .ins m e k r => .ins m e k (Rps.short r0 r)
theorem Rps.short : ∀ {ds : List D} {vs0 vs : List V}, Rps K F0 rho ds vs0 → Rps K F (rho ++ t) ds vs → Rps K F rho ds vs
  | _, _, _, .nil, .nil => .nil
  | _, _, _, .cons r0 rs0, .cons r rs => .cons (Rp.short r0 r) (Rps.short rs0 rs)
end
theorem Ob.short {H0 H : Hp} {a0 a : Addr} {d : D} (h0 : Ob K F0 rho H0 a0 d) (h : Ob K F (rho ++ t) H a d) : Ob K F rho H a d := by
  cases d <;> try exact h.elim
  · obtain ⟨qs, e, r, k, l⟩ := h
    obtain ⟨_, _, r0, _⟩ := h0
    exact ⟨qs, e, r0.short r, k, l⟩
  · obtain ⟨xs, e, r⟩ := h
    obtain ⟨_, _, r0⟩ := h0
    exact ⟨xs, e, r0.short r⟩
  · obtain ⟨xs, e, k, r⟩ := h
    obtain ⟨_, _, _, r0⟩ := h0
    exact ⟨xs, e, k, r0.short r⟩
  · obtain ⟨xs, e, k, r⟩ := h
    obtain ⟨_, _, _, r0⟩ := h0
    exact ⟨xs, e, k, r0.short r⟩
  · obtain ⟨C, dx, es, m, e, k, r⟩ := h
    obtain ⟨_, _, _, _, _, _, r0⟩ := h0
    exact ⟨C, dx, es, m, e, k, r0.short r⟩
end
open Classical in
noncomputable def mkV (h : List D) : Option (D × List D) → Option D
  | some (.non, h') => match h'[h.length]? with
    | some (.ins nm fs) => if h' = h ++ [.ins nm fs] ∧ (fs.map Prod.snd).all (blw 12 h.length) = true then some (.ins nm fs) else none
    | _ => none
  | _ => none
noncomputable def E.mk (nm : Str) (mf : Fn) (g : List D → List D) (ms : List (M D)) : M D := bnd (E.args ms) fun xs z => match mkV z.h (mf (.ref z.h.length :: g xs) (z.h ++ [.ins nm []])) with
  | some d => some (d, z)
  | none => none
theorem Tx.mono {K : Kx} {α β : Type} {R : RelT α β} {m : M α} {σ : L2.St} {H : Hp} {Q Q' : β → Hp → Prop} (h : Tx K R m σ H Q) (i : ∀ y H, Q y H → Q' y H) : Tx K R m σ H Q' := by
  obtain ⟨B, F, rho, om, z, g⟩ := h
  exact ⟨B, F, rho, om, z, g.imp fun _ _ H x _ y _ _ _ _ _ q => i y H q⟩
theorem walkX {l : PySem.W.OpenLaw} {k : Nat} {q : Program} {loose : List Str} {XP : (Str → Option Value) → Heap → Prop} {YP : World → Heap → Prop} {d : DefRec} {x : Str} {mf : Fn} (most : l.most = some 63) (nodef : d.params.defaults = []) (room : Room k callerA)
    (F : ∀ (w : World) (mg : Str → Option Value) (fa : Addr) (hp : Heap), YP w hp → hp.Ns mainGlobals mg → mg d.name = some (.ref fa) →
      ∃ (K : PySem.W.Frag) (fd : FuncData) (cs : List Cs) (cl : List (Str × Addr)), K.In hp ∧ CsOk K hp cs ∧ (∀ (sh : Shared) (u : Value), BindsTo sh fd ⟨[u], []⟩ [(x, u)]) ∧ ∀ base : Heap, K.In base → base.Ns mainGlobals mg → (∀ z ∈ cs, LamX.TabB base mg z.c z.p) → GOk l.prog w K mg base k fa fd [x] (spM 1 ⟨K, ⟨tbs cs, cl⟩⟩ mf))
    (law : ∀ ns : List Int, ns.length ≤ 63 → ∃ h', mf [.scr (ns.map D.int)] [] = some (.bl true, h')) : PySem.W.WalkO q loose XP YP l.row.toRowW d [] (fun f vs => PySem.call f vs) := by
  apply Att.attach_call most nodef
  intro w s0 s1 mg mb fa o pm cd doc a us ns G Y ho hd hcd hmg scr iar short gens
  obtain ⟨K, fd, cs, cl, kin, ck, hb, hF⟩ := F w mg fa _ Y G.T.g hmg
  refine row_call kin G.T.g G.T.b G.T.builtins G.T.nolimit gens ck G.T.bmain scr iar (Nat.le_trans short (by decide)) room hF hb fun Hh hT sq => ?_
  obtain ⟨h2, e⟩ := law ns short
  have rh : Rh ⟨K, ⟨tbs cs, cl⟩⟩ (fun b => if ∃ z ∈ cs, z.p = b then none else Hh b) [] [] Hh := by
    classical
    refine ⟨fun b o e => ?_, rfl, (fun _ _ _ h => by simp at h), (fun _ _ _ h => by simp at h), (fun _ _ h => by simp at h), ⟨fun p hp => ?_, fun p hp y hy c => ?_, fun p hp => ?_⟩, fun _ _ _ h => by simp at h⟩
    · split at e
      · cases e
      · exact e
    · obtain ⟨z, hz, rfl⟩ := List.mem_map.mp hp
      refine ⟨#[], hT z hz, True.intro, fun pos cv hc => ?_⟩
      have hc : codeAmong pos [] = some cv := hc
      simp [codeAmong] at hc
    · obtain ⟨z, hz, rfl⟩ := List.mem_map.mp hp
      obtain ⟨z2, hz2, rfl⟩ := List.mem_map.mp hy
      exact ck.one z hz z2 hz2 c
    · obtain ⟨z, hz, rfl⟩ := List.mem_map.mp hp
      exact if_pos ⟨z, hz, rfl⟩
  have sq2 : SqL K (fun b => if ∃ z ∈ cs, z.p = b then none else Hh b) a (ns.map V.int) := by
    have na : ¬ ∃ z ∈ cs, z.p = a := by
      rintro ⟨z, hz, rfl⟩
      have := ck.tab z hz
      rw [scr] at this
      cases this
    rcases sq with (sq | ⟨o, sq⟩) | sq
    · exact .inl (.inl ((if_neg na).trans sq))
    · exact .inl (.inr ⟨o, (if_neg na).trans sq⟩)
    · exact .inr sq
  exact ⟨rfl, _, [], [], [.scr (ns.map D.int)], rh, .one (.scr sq2 (.ints ns)), _, h2, e, fun _ _ _ v _ _ _ _ _ _ r => by cases r; rfl⟩
/-- the tables of the defs that hold a lambda -/
theorem csD_ok {fa : List He.Fa} {fn : List He.DefD} {ts : List He.Tab} {tf : List (He.Defn × Str)} {ex : PySem.W.Frag → Bool} {w : World} {hp : Heap} {K : PySem.W.Frag} (kin : K.In hp) (c : He.SaysX fa fn ts (tf.map Prod.fst) ex w hp K) (one : ∀ z ∈ csD K tf, ∀ y ∈ csD K tf, z.p = y.p → z.q = y.q) : CsOk K hp (csD K tf) := by
  refine ⟨fun z hz => ?_, fun z hz => ?_, fun z hz => ?_, one⟩
  all_goals
    obtain ⟨p, hp2, rfl⟩ := List.mem_map.mp hz
    have hm : p.1 ∈ tf.map Prod.fst := List.mem_map_of_mem hp2
  · exact c.empty _ hm
  · exact c.out _ hm
  · exact codeHd_of_K kin (c.hd _ hm)
end Mi
set_option Elab.async false
set_option linter.all false
set_option maxRecDepth 100000
set_option synthInstance.maxSize 2000
set_option synthInstance.maxHeartbeats 400000
namespace Mi
open PySem L2
@[reducible] def eG (x : Str) (_ : Unit) : D := .str x
@[reducible] def sv : Option D → Sl
  | none => .no
  | some d => .val d
def isVal : D → Bool
  | .own _ => false
  | .ref _ => false
  | .str _ => false
  | _ => true
theorem snap_val {d : D} (h : isVal d = true) (z : Z) : O.snap d z = d := by
  cases d <;> first | rfl | cases h
structure EqN {α : Type} [DecidableEq α] (n : Nat) (e : α → D) (f : α → PyData) : Prop where
  p : ∀ x, O.toP (e x) = some (f x)
  c : ∀ x, (f x).canLay0 = true
  d : ∀ x, (f x).depth ≤ n
  q : ∀ x y, PyData.eqv (f x) (f y) = decide (x = y)
/-- equality of data, whatever it is -/
def Pl.eqD (x y : D) : Option Bool := O.eqP x y ⟨[], []⟩
section
variable {α β γ δ ε ζ η : Type} [DecidableEq α] [DecidableEq β] [DecidableEq γ] [DecidableEq δ] [DecidableEq ε] [DecidableEq ζ] [DecidableEq η]
  {n m : Nat} {ea : α → D} {fa : α → PyData} {eb : β → D} {fb : β → PyData} {ec : γ → D} {fc : γ → PyData} {ed : δ → D} {fd : δ → PyData} {ee : ε → D} {fe : ε → PyData} {ef : ζ → D} {ff : ζ → PyData} {eg : η → D} {fg : η → PyData}
theorem EqN.eqP {e : α → D} {f : α → PyData} (h : EqN n e f) (hn : n ≤ 64) (x y : α) (z : Z) (hx : isVal (e x) = true) (hy : isVal (e y) = true) : O.eqP (e x) (e y) z = some (decide (x = y)) := by
  have e0 : O.eqP (e x) (e y) z = O.eqD (e x) (e y) z := by
    revert hx
    generalize e x = X
    intro hx
    cases X <;> first | rfl | cases hx
  rw [e0]
  unfold O.eqD
  rw [snap_val hx, snap_val hy, h.p, h.p]
  dsimp only
  rw [if_pos ⟨by unfold SeqAt.shaped; rw [h.c, decide_eq_true (Nat.le_trans (h.d x) hn)]; rfl, by unfold SeqAt.shaped; rw [h.c, decide_eq_true (Nat.le_trans (h.d y) hn)]; rfl⟩, h.q]
theorem EqN.mono {e : α → D} {f : α → PyData} (h : EqN n e f) (hn : n ≤ m) : EqN m e f := ⟨h.p, h.c, fun x => Nat.le_trans (h.d x) hn, h.q⟩
theorem EqN.I : EqN 0 eI PyData.int := ⟨fun _ => rfl, fun _ => by simp [PyData.canLay0], fun _ => by simp [PyData.depth], fun x y => by simp [PyData.eqv, Bool.beq_eq_decide_eq]⟩
theorem EqN.N : EqN 0 eN (fun _ => PyData.none) := ⟨fun _ => rfl, fun _ => by simp [PyData.canLay0], fun _ => by simp [PyData.depth], fun x y => by simp [PyData.eqv]⟩
def pO (f : α → PyData) : Option α → PyData
  | none => .none
  | some x => f x
theorem eqv_non {p : PyData} (h : p ≠ .none) : PyData.eqv .none p = false ∧ PyData.eqv p .none = false := by
  cases p <;> first | exact absurd rfl h | exact ⟨by simp [PyData.eqv], by simp [PyData.eqv]⟩
theorem EqN.O (h : EqN n ea fa) (hn : ∀ x, isNon (ea x) = false) : EqN n (eO ea) (pO fa) := by
  have nn : ∀ x, fa x ≠ .none := fun x e => by
    have h1 := h.p x
    rw [e] at h1
    have h2 := hn x
    revert h1 h2
    generalize ea x = d
    intro h1 h2
    cases d <;> first | (cases h2; done) | (rw [O.toP] at h1; first | (cases h1; done) | (cases q : O.toPs _ with | none => rw [q] at h1; cases h1 | some _ => rw [q] at h1; cases h1)) | (simp [O.toP] at h1; done)
  refine ⟨fun x => ?_, fun x => ?_, fun x => ?_, fun x y => ?_⟩
  · cases x with
    | none => rfl
    | some x => exact h.p x
  · cases x with
    | none => simp [pO, PyData.canLay0]
    | some x => exact h.c x
  · cases x with
    | none => simp [pO, PyData.depth]
    | some x => exact h.d x
  · cases x with
    | none => cases y with
      | none => simp [pO, PyData.eqv]
      | some y => rw [show pO fa none = .none from rfl, show pO fa (some y) = fa y from rfl, (eqv_non (nn y)).1]; simp
    | some x => cases y with
      | none => rw [show pO fa none = .none from rfl, show pO fa (some x) = fa x from rfl, (eqv_non (nn x)).2]; simp
      | some y => rw [show pO fa (some x) = fa x from rfl, show pO fa (some y) = fa y from rfl, h.q]; simp
theorem all_map {xs : List α} (h : EqN n ea fa) : O.toPs (xs.map ea) = some (xs.map fa) ∧ PyData.canLayAll0 (xs.map fa) = true ∧ PyData.depthAll (xs.map fa) ≤ n := by
  induction xs with
  | nil => exact ⟨rfl, by simp [PyData.canLayAll0], by simp [PyData.depthAll]⟩
  | cons x xs ih =>
    refine ⟨?_, ?_, ?_⟩
    · rw [List.map_cons, List.map_cons, O.toPs, h.p, ih.1]
    · simp [PyData.canLayAll0, h.c x, ih.2.1]
    · have := h.d x
      simp [PyData.depthAll, ih.2.2]
      omega
theorem eqv_map (h : EqN n ea fa) : ∀ xs ys : List α, PyData.eqvAll (xs.map fa) (ys.map fa) = decide (xs = ys)
  | [], [] => by simp [PyData.eqvAll]
  | [], _ :: _ => by simp [PyData.eqvAll]
  | _ :: _, [] => by simp [PyData.eqvAll]
  | x :: xs, y :: ys => by
    rw [List.map_cons, List.map_cons, PyData.eqvAll, h.q, eqv_map h xs ys]
    simp
theorem EqN.L (h : EqN n ea fa) : EqN (n + 1) (eL ea) (fun xs => .list (xs.map fa)) := by
  refine ⟨fun xs => ?_, fun xs => ?_, fun xs => ?_, fun xs ys => ?_⟩
  · show O.toP (.lst (xs.map ea)) = _
    rw [O.toP, (all_map h).1]
    rfl
  · rw [PyData.canLay0]; exact (all_map h).2.1
  · have := (all_map (xs := xs) h).2.2
    rw [PyData.depth]
    omega
  · rw [PyData.eqv]; exact eqv_map h xs ys
theorem isValO {e : α → D} (h : ∀ x, isVal (e x) = true) (o : Option α) : isVal (eO e o) = true := by
  cases o with
  | none => rfl
  | some x => exact h x
end
def Pl.out {σ ρ β : Type} (k : σ → β) (r : ρ → β) : σ ⊕ ρ → β
  | .inl s => k s
  | .inr x => r x
theorem Rf.thnX {α β ρ : Type} {a rest : C} {z : Z} {Φ : α → Fl → Z → Prop} {o : Option (β ⊕ ρ)} {K : β → Option α} {E : ρ → Option α} (J : β → Z → Prop) (RT : ρ → Fl → Z → Prop) (h1 : Rf o a z fun v f z' => match v with | .inl v => f = .nx ∧ J v z' | .inr r => (∃ d, f = .rt d) ∧ RT r f z') (k : ∀ v z', J v z' → Rf (K v) rest z' Φ)
    (q : ∀ r r' f z', E r = some r' → (∃ d, f = .rt d) ∧ RT r f z' → Φ r' f z') : Rf (o.bind (Pl.out K E)) (C.seq a rest) z Φ :=
  Rf.thnO J RT h1 k q
section
variable {α β γ : Type} {x y d : D} {a b m : M D} {z z1 z2 : Z} {s s' s1 s2 : List Sl} {h h1 : List D} {i j k : Int} {p q : Bool}
theorem ev_nm {e : α → D} {v w : α} (h1 : m z = some (e v, z1)) (hx : some v = some w) : m z = some (e w, z1) := by cases hx; exact h1
theorem ev_catP {e : α → D} {xs ys r : List α} (h1 : a z = some (x, z1)) (h2 : b z1 = some (y, z2)) (h3 : cont x z2 = some (false, xs.map e)) (h4 : cont y z2 = some (false, ys.map e)) (hx : noScr x = true) (hy : noScr y = true) (hr : Pl.cat xs ys = some r) : N.cat a b z = some (r.map e, z2) := by
  unfold Pl.cat at hr
  split at hr
  · rename_i hl
    cases hr
    rw [ev_cat h1 h2 h3 h4 hx hy (by rw [List.length_map, List.length_map]; exact hl), List.map_append]
  · cases hr
end
theorem Dr.q_draw {s : DS} {many : Int} (tl : List D) {r : Int × DS} (hr : Pl.draw s many = some r) : Dr.m_law_draw [.ref 1, .int many] (stT s tl) = some (.int r.1, stT r.2 tl) := by
  unfold Pl.draw at hr
  split at hr
  · rename_i c
    cases hr
    exact Dr.draw_evT tl s c.1 (Smn.of (by omega)) (by decide)
  · cases hr
theorem Rf.none {α : Type} {c : C} {z : Z} {Φ : α → Fl → Z → Prop} : Rf Option.none c z Φ := fun r e => by cases e
section
variable {α β γ : Type} {x y d : D} {a b m : M D} {z z1 z2 : Z} {s s' s1 s2 : List Sl} {h h1 : List D}
def Pl.setAt (xs : List α) (i : Int) (x : α) : Option (List α) := (ixN xs.length i).map fun k => xs.set k x
/-- xs[i] = e of a list that a slot owns -/
theorem Rf.setIx {δ : Type} {Φ : δ → Fl → Z → Prop} {rest : C} {i : Nat} {mi me : M D} {xs : List β} {j : Int} {t : β} {K : List β → Option δ} (e : β → D) (he : me z = some (e t, z1)) (hi : s[i]? = some (.own (.lst (xs.map e)))) (hm : z1 = ⟨s, h⟩) (hj : mi ⟨s, h⟩ = some (.int j, ⟨s, h1⟩)) (hp : isPure (e t) = true) {s' : List β → List Sl} (hs : ∀ ys : List β, s.set i (.own (.lst (ys.map e))) = s' ys) (k : ∀ ys, Rf (K ys) rest ⟨s' ys, h1⟩ Φ) :
    Rf ((Pl.setAt xs j t).bind K) (C.seq (C.setIx (E.var i) mi me) rest) z Φ := Rf.bd fun ys hy => by
  subst hm
  unfold Pl.setAt at hy
  cases hn : ixN xs.length j with
  | none => rw [hn] at hy; cases hy
  | some n =>
    rw [hn] at hy
    cases hy
    refine (k (xs.set n t)).nx ?_
    rw [← hs]
    refine cs_setIxO he (ev_varO hi) hj hp hi ?_
    unfold U.setAt
    rw [List.length_map, hn]
    show some ((xs.map e).set n (e t)) = _
    rw [List.map_set]
end
end Mi
set_option Elab.async false
set_option linter.all false
set_option maxRecDepth 100000
namespace Mi
open PySem L2
/-- o is told, and Φ holds of it -/
def Tot {α : Type} (o : Option α) (Φ : α → Prop) : Prop := ∃ r, o = some r ∧ Φ r
section
variable {α β γ σ ρ : Type} {o : Option α} {Φ Ψ : α → Prop}
theorem Tot.some {r : α} (h : Φ r) : Tot (some r) Φ := ⟨r, rfl, h⟩
theorem Tot.imp (h : Tot o Ψ) (i : ∀ r, Ψ r → Φ r) : Tot o Φ := by
  obtain ⟨r, e, q⟩ := h
  exact ⟨r, e, i r q⟩
theorem Tot.bind {o : Option β} {K : β → Option α} {Ψ : β → Prop} (h : Tot o Ψ) (k : ∀ r, Ψ r → Tot (K r) Φ) : Tot (o.bind K) Φ := by
  obtain ⟨r, e, q⟩ := h
  obtain ⟨r2, e2, q2⟩ := k r q
  exact ⟨r2, by rw [e]; exact e2, q2⟩
theorem Tot.of {o : Option β} {K : β → Option α} {r : β} (h : o = Option.some r) (k : Tot (K r) Φ) : Tot (o.bind K) Φ := by subst h; exact k
theorem Tot.nm {K : β → Option α} {r : β} (k : Tot (K r) Φ) : Tot ((Option.some r).bind K) Φ := k
theorem Tot.ite {p : Bool} {a b : Option α} (h1 : p = true → Tot a Φ) (h2 : p = false → Tot b Φ) : Tot (if p = true then a else b) Φ := by
  cases p with
  | true => exact h1 rfl
  | false => exact h2 rfl
theorem Tot.iteT {p : Bool} {a b : Option α} (hp : p = true) (h1 : Tot a Φ) : Tot (if p = true then a else b) Φ := by subst hp; exact h1
theorem Tot.iteF {p : Bool} {a b : Option α} (hp : p = false) (h1 : Tot b Φ) : Tot (if p = true then a else b) Φ := by subst hp; exact h1
theorem Tot.eq {r : α} (h : o = Option.some r) (q : Φ r) : Tot o Φ := ⟨r, h, q⟩
theorem Tot.get {r : α} (h : Tot o fun x => x = r) : o = Option.some r := by
  obtain ⟨x, e, rfl⟩ := h
  exact e
theorem Tot.draw {s : DS} {many : Int} {K : Int × DS → Option α} (h : 0 < many) (h2 : many ≤ 1000000000000) (k : ∀ (v : Int) (s2 : DS), 0 ≤ v → v < many → Tot (K (v, s2)) Φ) : Tot ((Pl.draw s many).bind K) Φ := by
  refine Tot.of (r := (drawV s many, drawS s many)) ?_ (k _ _ (drawV_nn s h) (drawV_lt s h))
  unfold Pl.draw
  rw [if_pos ⟨h, h2⟩]
theorem Tot.take {s : TS} {many : Int} {K : Int × TS → Option α} (h : 0 < many) (k : ∀ (v : Int) (s2 : TS), 0 ≤ v → v < many → Tot (K (v, s2)) Φ) : Tot ((Pl.take s many).bind K) Φ := by
  refine Tot.of (r := (takeV s many, takeS s)) ?_ (k _ _ (takeV_nn s h) (takeV_lt s h))
  unfold Pl.take
  rw [if_pos h]
/-- for, by what holds of what is left -/
theorem Tot.loopN {f : β → σ → Option σ} {Q : σ → Prop} (I : List β → σ → Prop) (step : ∀ x xs s, I (x :: xs) s → Tot (f x s) fun s2 => I xs s2) (fin : ∀ s, I [] s → Q s) : ∀ (xs : List β) (s : σ), I xs s → Tot (Pl.forN f xs s) Q
  | [], s, h => ⟨s, rfl, fin s h⟩
  | x :: xs, s, h => by
    obtain ⟨s2, e, q⟩ := step x xs s h
    obtain ⟨s3, e3, q3⟩ := Tot.loopN I step fin xs s2 q
    exact ⟨s3, by rw [Pl.forN, e]; exact e3, q3⟩
theorem Tot.forN {f : β → σ → Option σ} {xs : List β} {s : σ} {K : σ → Option α} (I : List β → σ → Prop) (h0 : I xs s) (step : ∀ x xs s, I (x :: xs) s → Tot (f x s) fun s2 => I xs s2) (k : ∀ s, I [] s → Tot (K s) Φ) : Tot ((Pl.forN f xs s).bind K) Φ :=
  Tot.bind (Tot.loopN (Q := fun s => I [] s) I step (fun _ h => h) xs s h0) k
/-- .. over the turns of a range -/
theorem rng_cons {a b : Int} (h : a < b) : Pl.rng a b = a :: Pl.rng (a + 1) b := by
  unfold Pl.rng
  obtain ⟨n, hn⟩ : ∃ n : Nat, b - a = n + 1 := ⟨(b - a - 1).toNat, by omega⟩
  have e1 : (b - a).toNat = n + 1 := by omega
  have e2 : (b - (a + 1)).toNat = n := by omega
  rw [e1, e2, List.range_succ_eq_map, List.map_cons, List.map_map]
  rw [List.cons.injEq]
  refine ⟨by simp, ?_⟩
  apply List.map_congr_left
  intro i _
  simp only [Function.comp]
  push_cast
  omega
theorem rng_nil {a b : Int} (h : b ≤ a) : Pl.rng a b = [] := by
  unfold Pl.rng
  have e : (b - a).toNat = 0 := by omega
  rw [e]
  rfl
theorem rng_mem {a b n : Int} : n ∈ Pl.rng a b ↔ a ≤ n ∧ n < b := by
  unfold Pl.rng
  simp only [List.mem_map, List.mem_range]
  constructor
  · rintro ⟨i, hi, rfl⟩
    omega
  · rintro ⟨h1, h2⟩
    exact ⟨(n - a).toNat, by omega, by omega⟩
theorem rng_len {a b : Int} : (Pl.rng a b).length = (b - a).toNat := by unfold Pl.rng; simp
theorem Tot.rngO {a b : Int} {K : List Int → Option α} (h : (-(2 ^ 62) ≤ a ∧ a < 2 ^ 62) ∧ -(2 ^ 62) ≤ b ∧ b < 2 ^ 62) (k : Tot (K (Pl.rng a b)) Φ) : Tot ((Pl.rngO a b).bind K) Φ := by
  refine Tot.of (r := Pl.rng a b) ?_ k
  unfold Pl.rngO
  rw [if_pos h]
theorem Tot.loopR {f : Int → σ → Option σ} {Q : σ → Prop} (I : Int → σ → Prop) (b : Int) (step : ∀ i s, i < b → I i s → Tot (f i s) fun s2 => I (i + 1) s2) (fin : ∀ s, I b s → Q s) : ∀ (n : Nat) (a : Int) (s : σ), b - a = n → I a s → Tot (Pl.forN f (Pl.rng a b) s) Q
  | 0, a, s, hn, h => by
    have : a = b := by omega
    subst this
    rw [rng_nil (Int.le_refl _)]
    exact ⟨s, rfl, fin s h⟩
  | n + 1, a, s, hn, h => by
    have hab : a < b := by omega
    rw [rng_cons hab]
    obtain ⟨s2, e, q⟩ := step a s hab h
    obtain ⟨s3, e3, q3⟩ := Tot.loopR I b step fin n (a + 1) s2 (by omega) q
    exact ⟨s3, by rw [Pl.forN, e]; exact e3, q3⟩
theorem Tot.forR {f : Int → σ → Option σ} {a b : Int} {s : σ} {K : σ → Option α} (I : Int → σ → Prop) (hab : a ≤ b) (h0 : I a s) (step : ∀ i s, a ≤ i → i < b → I i s → Tot (f i s) fun s2 => I (i + 1) s2) (k : ∀ s, I b s → Tot (K s) Φ) : Tot ((Pl.forN f (Pl.rng a b) s).bind K) Φ :=
  Tot.bind (Tot.loopR (Q := fun s => I b s) (fun i s => a ≤ i ∧ I i s) b (fun i s hi h => (step i s h.1 hi h.2).imp fun s2 q => ⟨by omega, q⟩) (fun _ h => h.2) (b - a).toNat a s (by omega) ⟨Int.le_refl _, h0⟩) k
/-- for with exits: an invariant over what is left; what holds when it is left -/
theorem Tot.loopO {f : β → σ → Option (Pl.Out σ ρ)} {Q : σ ⊕ ρ → Prop} (I : List β → σ → Prop) (step : ∀ x xs s, I (x :: xs) s → Tot (f x s) fun o => match o with | .go s2 => I xs s2 | .brk s2 => Q (.inl s2) | .ret r => Q (.inr r)) (fin : ∀ s, I [] s → Q (.inl s)) : ∀ (xs : List β) (s : σ), I xs s → Tot (Pl.forO f xs s) Q
  | [], s, h => ⟨.inl s, rfl, fin s h⟩
  | x :: xs, s, h => by
    obtain ⟨o, e, q⟩ := step x xs s h
    cases o with
    | go s2 =>
      obtain ⟨s3, e3, q3⟩ := Tot.loopO I step fin xs s2 q
      exact ⟨s3, by rw [Pl.forO, e]; exact e3, q3⟩
    | brk s2 => exact ⟨.inl s2, by rw [Pl.forO, e], q⟩
    | ret r => exact ⟨.inr r, by rw [Pl.forO, e], q⟩
theorem Tot.forO {f : β → σ → Option (Pl.Out σ ρ)} {xs : List β} {s : σ} {K : σ → Option α} {E : ρ → Option α} (I : List β → σ → Prop) (QB : σ → Prop) (QR : ρ → Prop) (h0 : I xs s) (step : ∀ x xs s, I (x :: xs) s → Tot (f x s) fun o => match o with | .go s2 => I xs s2 | .brk s2 => QB s2 | .ret r => QR r)
    (k : ∀ s, I [] s ∨ QB s → Tot (K s) Φ) (kr : ∀ r, QR r → Tot (E r) Φ) : Tot ((Pl.forO f xs s).bind (Pl.out K E)) Φ := by
  refine Tot.bind (Tot.loopO (Q := fun o => match o with | .inl s => I [] s ∨ QB s | .inr r => QR r) I (fun x xs s h => (step x xs s h).imp fun o q => ?_) (fun s h => .inl h) xs s h0) fun o q => ?_
  · cases o with
    | go s2 => exact q
    | brk s2 => exact .inr q
    | ret r => exact q
  · cases o with
    | inl s => exact k s q
    | inr r => exact kr r q
theorem Tot.whO {t : σ → Option Bool} {f : σ → Option (Pl.Out σ ρ)} {Q : σ ⊕ ρ → Prop} (I : Nat → σ → Prop) (step : ∀ n s, I n s → Tot (t s) fun p => (p = false → Q (.inl s)) ∧ (p = true → Tot (f s) fun o => match o with | .go s2 => ∃ m, m < n ∧ I m s2 | .brk s2 => Q (.inl s2) | .ret r => Q (.inr r))) : ∀ (n : Nat) (s : σ), I n s → Tot (Pl.whO t f s) Q := by
  intro n
  induction n using Nat.strongRecOn with
  | ind n ih =>
    intro s h
    obtain ⟨p, e, q1, q2⟩ := step n s h
    cases p with
    | false => exact ⟨.inl s, by rw [Pl.whO, e], q1 rfl⟩
    | true =>
      obtain ⟨o, e2, q⟩ := q2 rfl
      cases o with
      | go s2 =>
        obtain ⟨m, hm, q⟩ := q
        obtain ⟨r, e3, q3⟩ := ih m hm s2 q
        exact ⟨r, by rw [Pl.whO, e]; dsimp only; rw [e2]; exact e3, q3⟩
      | brk s2 => exact ⟨.inl s2, by rw [Pl.whO, e]; dsimp only; rw [e2], q⟩
      | ret r => exact ⟨.inr r, by rw [Pl.whO, e]; dsimp only; rw [e2], q⟩
theorem Tot.wh {t : σ → Option Bool} {f : σ → Option (Pl.Out σ ρ)} {s : σ} {K : σ → Option α} {E : ρ → Option α} (I : Nat → σ → Prop) (QB : σ → Prop) (QR : ρ → Prop) (n : Nat) (h0 : I n s) (step : ∀ n s, I n s → Tot (t s) fun p => (p = false → QB s) ∧ (p = true → Tot (f s) fun o => match o with | .go s2 => ∃ m, m < n ∧ I m s2 | .brk s2 => QB s2 | .ret r => QR r))
    (k : ∀ s, QB s → Tot (K s) Φ) (kr : ∀ r, QR r → Tot (E r) Φ) : Tot ((Pl.whO t f s).bind (Pl.out K E)) Φ := by
  refine Tot.bind (Tot.whO (Q := fun o => match o with | .inl s => QB s | .inr r => QR r) I (fun n s h => (step n s h).imp fun p q => ⟨q.1, fun hp => (q.2 hp).imp fun o q => ?_⟩) n s h0) fun o q => ?_
  · cases o with
    | go s2 => exact q
    | brk s2 => exact q
    | ret r => exact q
  · cases o with
    | inl s => exact k s q
    | inr r => exact kr r q
theorem filt_true {xs : List β} : xs.filter (fun _ => true) = xs := List.filter_eq_self.mpr fun _ _ => rfl
/-- .. whose tests and elements are told of the members -/
theorem cmp_e {t : β → Option Bool} {g : β → Option γ} {p : β → Bool} {f : β → γ} : ∀ {xs : List β}, (∀ x ∈ xs, t x = some (p x) ∧ (p x = true → g x = some (f x))) → Pl.cmp t g xs = some ((xs.filter p).map f)
  | [], _ => rfl
  | x :: xs, h => by
    obtain ⟨h1, h2⟩ := h x List.mem_cons_self
    have ih := cmp_e (xs := xs) fun y hy => h y (List.mem_cons_of_mem _ hy)
    rw [Pl.cmp, h1]
    show (if p x = true then (g x).bind fun y => (Pl.cmp t g xs).bind fun ys => some (y :: ys) else Pl.cmp t g xs) = _
    rw [ih]
    cases hp : p x with
    | true => rw [if_pos rfl, List.filter_cons_of_pos hp, h2 hp]; rfl
    | false => rw [if_neg (by decide), List.filter_cons_of_neg (by rw [hp]; decide)]
theorem comp_e {t : β → Option Bool} {g : β → Option γ} {xs : List β} (p : β → Bool) (f : β → γ) (hl : xs.length ≤ szl) (h : ∀ x ∈ xs, t x = some (p x) ∧ (p x = true → g x = some (f x))) : Pl.comp t g xs = some ((xs.filter p).map f) := by
  unfold Pl.comp
  rw [if_pos hl, cmp_e h]
theorem comp_em {g : β → Option γ} {xs : List β} (f : β → γ) (hl : xs.length ≤ szl) (h : ∀ x ∈ xs, g x = some (f x)) : Pl.comp (fun _ => some true) g xs = some (xs.map f) := by
  rw [comp_e (fun _ => true) f hl fun x hx => ⟨rfl, fun _ => h x hx⟩, filt_true]
theorem app_t {xs : List β} {x : β} (h : xs.length < szl) : Pl.app xs x = some (xs ++ [x]) := if_pos h
theorem cat_t {xs ys : List β} (h : xs.length + ys.length < szl) : Pl.cat xs ys = some (xs ++ ys) := if_pos h
theorem mul_t {i j : Int} {n m : Nat} (hi : Smn n i) (hj : Smn m j) (hn : n ≤ bigN) (hm : m ≤ bigN) : Pl.mul i j = some (i * j) := if_pos ⟨hi.up hn, hj.up hm⟩
theorem mul64 {i j : Int} (hi : -9223372036854775808 ≤ i ∧ i ≤ 9223372036854775807) (hj : -9223372036854775808 ≤ j ∧ j ≤ 9223372036854775807) : Pl.mul i j = some (i * j) := mul_t (Smn.of hi) (Smn.of hj) (by decide) (by decide)
theorem at_t {xs : List β} {i : Int} {n : Nat} {x : β} (hi : i = (n : Int)) (h : xs[n]? = some x) : Pl.at_ xs i = some x := by
  subst hi
  exact atI_nat h
theorem at_in {xs : List β} {i : Int} (h0 : 0 ≤ i) (h : i < xs.length) : ∃ x, xs[i.toNat]? = some x ∧ Pl.at_ xs i = some x := by
  have hl : i.toNat < xs.length := by omega
  exact ⟨_, List.getElem?_eq_getElem hl, at_t (n := i.toNat) (by omega) (List.getElem?_eq_getElem hl)⟩
theorem at_last {xs : List β} {x : β} : Pl.at_ (xs ++ [x]) (-1) = some x := by
  have e : ixN (xs ++ [x]).length (-1) = some xs.length := by
    unfold ixN
    rw [if_neg (by decide), List.length_append, List.length_singleton, if_pos (by omega)]
    congr 1
    omega
  unfold Pl.at_ atI
  rw [e]
  show (xs ++ [x])[xs.length]? = _
  rw [List.getElem?_append_right (Nat.le_refl _), Nat.sub_self]
  rfl
theorem minL_spec : ∀ {xs : List Int}, xs ≠ [] → ∃ m, F.minL xs = some m ∧ m ∈ xs ∧ ∀ x ∈ xs, m ≤ x
  | [], h => absurd rfl h
  | x :: xs, _ => by
    have key : ∀ (ys : List Int) (a : Int), (ys.foldl (fun a b => if b < a then b else a) a ∈ a :: ys) ∧ ∀ y ∈ a :: ys, ys.foldl (fun a b => if b < a then b else a) a ≤ y := by
      intro ys
      induction ys with
      | nil => intro a; exact ⟨List.mem_singleton.mpr rfl, fun y hy => by rw [List.mem_singleton.mp hy]; exact Int.le_refl _⟩
      | cons b ys ih =>
        intro a
        rw [List.foldl_cons]
        obtain ⟨h1, h2⟩ := ih (if b < a then b else a)
        constructor
        · rcases List.mem_cons.mp h1 with e | e
          · rw [e]
            split
            · exact List.mem_cons_of_mem _ List.mem_cons_self
            · exact List.mem_cons_self
          · exact List.mem_cons_of_mem _ (List.mem_cons_of_mem _ e)
        · intro y hy
          have h3 := h2 _ List.mem_cons_self
          rcases List.mem_cons.mp hy with e | hy
          · rw [e]; exact Int.le_trans h3 (by split <;> omega)
          · rcases List.mem_cons.mp hy with e | hy
            · rw [e]; exact Int.le_trans h3 (by split <;> omega)
            · exact h2 y (List.mem_cons_of_mem _ hy)
    exact ⟨_, rfl, (key xs x).1, (key xs x).2⟩
end
end Mi
set_option Elab.async false
set_option linter.all false
set_option maxRecDepth 100000
namespace Mi
open PySem PySem.Spec PyProof.Rows L2
structure KEnc (κ : Type) where
  k : κ → Key
  inj : ∀ a b, k a = k b → a = b
structure TEnc (κ : Type) where
  k : κ → List Key
  inj : ∀ a b, k a = k b → a = b
def yI : KEnc Int := ⟨.inl, fun _ _ h => Sum.inl.inj h⟩
section
variable {α β γ δ κ : Type}
def y2 (a : KEnc α) (b : KEnc β) : TEnc (α × β) := ⟨fun p => [a.k p.1, b.k p.2], fun p q h => by
  rw [List.cons.injEq, List.cons.injEq] at h
  exact Prod.ext (a.inj _ _ h.1) (b.inj _ _ h.2.1)⟩
def y3 (a : KEnc α) (b : KEnc β) (c : KEnc γ) : TEnc (α × β × γ) := ⟨fun p => [a.k p.1, b.k p.2.1, c.k p.2.2], fun p q h => by
  rw [List.cons.injEq, List.cons.injEq, List.cons.injEq] at h
  exact Prod.ext (a.inj _ _ h.1) (Prod.ext (b.inj _ _ h.2.1) (c.inj _ _ h.2.2.1))⟩
@[reducible] def eK (y : KEnc κ) (e : α → D) (kvs : List (κ × α)) : D := .dk (kvs.map fun kv => (y.k kv.1, e kv.2))
@[reducible] def eT (y : TEnc κ) (e : α → D) (kvs : List (κ × α)) : D := .dt (kvs.map fun kv => (y.k kv.1, e kv.2))
namespace Pl
variable [DecidableEq κ]
def dput (kvs : List (κ × α)) (k : κ) (v : α) : Option (List (κ × α)) := if kvs.length < szl then some (putG kvs k v) else none
end Pl
variable [DecidableEq κ]
theorem getG_map {κ' : Type} [DecidableEq κ'] {f : κ → κ'} (hf : ∀ a b, f a = f b → a = b) (e : α → β) (k : κ) : ∀ kvs : List (κ × α), getG (kvs.map fun kv => (f kv.1, e kv.2)) (f k) = (getG kvs k).map e
  | [] => rfl
  | kv :: kvs => by
    have ih := getG_map hf e k kvs
    unfold getG at ih ⊢
    rw [List.map_cons, List.find?_cons, List.find?_cons]
    by_cases h : kv.1 = k
    · rw [decide_eq_true h, decide_eq_true (show f kv.1 = f k from congrArg f h)]
      rfl
    · rw [decide_eq_false h, decide_eq_false (show ¬ f kv.1 = f k from fun e => h (hf _ _ e))]
      exact ih
theorem putG_map {κ' : Type} [DecidableEq κ'] {f : κ → κ'} (hf : ∀ a b, f a = f b → a = b) (e : α → β) (k : κ) (v : α) (kvs : List (κ × α)) : putG (kvs.map fun kv => (f kv.1, e kv.2)) (f k) (e v) = (putG kvs k v).map fun kv => (f kv.1, e kv.2) := by
  have hd : ∀ a : κ, decide (f a = f k) = decide (a = k) := fun a => by
    by_cases h : a = k
    · rw [decide_eq_true h, decide_eq_true (congrArg f h)]
    · rw [decide_eq_false h, decide_eq_false (fun e => h (hf _ _ e))]
  unfold putG
  have ha : ((kvs.map fun kv => (f kv.1, e kv.2)).any fun kv => decide (kv.1 = f k)) = kvs.any fun kv => decide (kv.1 = k) := by
    rw [List.any_map]
    congr 1
    funext kv
    exact hd kv.1
  rw [ha]
  split
  · rw [List.map_map, List.map_map]
    apply List.map_congr_left
    intro kv _
    simp only [Function.comp]
    by_cases h : kv.1 = k
    · rw [if_pos h, if_pos (congrArg f h)]
    · rw [if_neg h, if_neg (fun e => h (hf _ _ e))]
  · rw [List.map_append]
    rfl
theorem dgT {y : TEnc κ} {e : α → D} {kvs : List (κ × α)} {x : D} {k : κ} (h : keyT x = some (y.k k)) : dgetC (eT y e kvs) x = some ((getG kvs k).map e) := by
  unfold dgetC
  dsimp only
  rw [h]
  dsimp only
  rw [getG_map y.inj]
theorem dpT {y : TEnc κ} {e : α → D} {kvs r : List (κ × α)} {x : D} {k : κ} {v : α} (h : keyT x = some (y.k k)) (hr : Pl.dput kvs k v = some r) : dputC (eT y e kvs) x (e v) = some (eT y e r) := by
  unfold Pl.dput at hr
  unfold dputC
  dsimp only
  rw [h]
  dsimp only
  rw [List.length_map]
  split at hr
  · rename_i c
    cases hr
    rw [if_pos c, putG_map y.inj]
  · cases hr
end
section
variable {α β γ σ ρ κ : Type} {o : Option α} {m a b c : M D} {rest : C} {x y w cc : D} {z z1 z2 z3 : Z} {s s' : List Sl} {h : List D} {Φ : α → Fl → Z → Prop} [DecidableEq κ]
theorem ev_dixP {kvs : List (κ × β)} {k : κ} {e : β → D} {r : β} (h1 : a z = some (x, z1)) (h2 : b z1 = some (y, z2)) (h3 : dcont x z2 = some cc) (hg : dgetC cc y = some ((getG kvs k).map e)) (hr : getG kvs k = some r) : E.op O.dix a b z = some (e r, z2) :=
  ev_dix h1 h2 h3 (by rw [hg, hr]; rfl)
theorem ev_get2P {kvs : List (κ × β)} {k : κ} {e : β → D} {v : β} (h1 : a z = some (x, z1)) (h0 : (dcont x z1).isSome = true) (h2 : b z1 = some (y, z2)) (h5 : c z2 = some (e v, z3)) (hw : isPure (e v) = true) (h3 : dcont x z3 = some cc) (hg : dgetC cc y = some ((getG kvs k).map e)) : E.get2 a b c z = some (e ((getG kvs k).getD v), z3) := by
  rw [ev_get2 h1 h0 h2 h5 hw h3 hg]
  cases getG kvs k <;> rfl
/-- d = {} -/
theorem Rf.ownD {i : Nat} {d : D} (he : m z = some (d, ⟨s, h⟩)) (hn : i < s.length) (hs : s.set i (.own d) = s') (k : Rf o rest ⟨s', h⟩ Φ) : Rf o (C.seq (C.ownN i m) rest) z Φ := k.nx (cs_ownD he hn hs)
theorem Rf.frzD {i : Nat} {d : D} (h1 : s[i]? = some (.own d)) (hd : C.isDict d = true) (hs : s.set i (.val d) = s') (k : Rf o rest ⟨s', h⟩ Φ) : Rf o (C.seq (C.frzD i) rest) ⟨s, h⟩ Φ := k.nx (cs_frzD h1 hd hs)
/-- d[k] = v -/
theorem Rf.dputT {n : Nat} {Y : TEnc κ} {kvs : List (κ × β)} {k0 : κ} {v : β} {K : List (κ × β) → Option α} (e : β → D) (he : m z = some (e v, z1)) (ha : a z1 = some (.own n, z2)) (hb : b z2 = some (y, ⟨s, h⟩)) (hn : s[n]? = some (.own (eT Y e kvs))) (hk : keyT y = some (Y.k k0)) (hp : isPure (e v) = true) {s' : List (κ × β) → List Sl} (hs : ∀ r, s.set n (.own (eT Y e r)) = s' r)
    (k : ∀ r, Rf (K r) rest ⟨s' r, h⟩ Φ) : Rf ((Pl.dput kvs k0 v).bind K) (C.seq (C.dput a b m) rest) z Φ := Rf.bd fun r hr =>
  (k r).nx (cs_dputO he ha hb hn (dpT hk hr) hp (hs r))
theorem Rf.retD {n : Nat} {d : D} {r : α} (he : m z = some (.own n, ⟨s, h⟩)) (hn : s[n]? = some (.own d)) (hd : C.isDict d = true) (q : Φ r (.rt d) ⟨s.set n .no, h⟩) : Rf (some r) (C.seq (C.retD m) rest) z Φ := fun r' e => by
  cases e
  exact ⟨_, _, cs_rt (cs_retD he hn hd), q⟩
theorem dc_own {n : Nat} {Y : TEnc κ} {e : β → D} {kvs : List (κ × β)} (hn : z.s[n]? = some (.own (eT Y e kvs))) : dcont (.own n) z = some (eT Y e kvs) := by
  unfold dcont
  dsimp only
  rw [hn]
theorem cutL_map {xs : List β} {e : β → D} {lo hi : Option Int} : N.cutL (xs.map e) lo hi = (N.cutL xs lo hi).map e := by
  unfold N.cutL
  rw [List.length_map, List.map_take, List.map_drop]
theorem ev_sliceP {lo hi : Option (M D)} {l u : Option Int} {xs : List β} {e : β → D} (h1 : a z = some (x, z1)) (h2 : N.part lo z1 = some (l, z2)) (h3 : N.part hi z2 = some (u, z3)) (h4 : cont x z3 = some (false, xs.map e)) : N.slice a lo hi z = some ((N.cutL xs l u).map e, z3) := by
  rw [ev_slice h1 h2 h3 h4, cutL_map]
end
end Mi
set_option Elab.async false
set_option linter.all false
set_option maxRecDepth 100000
set_option maxHeartbeats 4000000
namespace Mi
open PySem PySem.Spec PyProof.Rows L2
end Mi
set_option Elab.async false
set_option linter.all false
set_option maxRecDepth 100000
set_option maxHeartbeats 4000000
namespace Mi
open PySem PySem.Spec PyProof.Rows L2
end Mi
set_option Elab.async false
set_option linter.all false
set_option maxRecDepth 100000
set_option maxHeartbeats 400000
namespace Mi
open PySem PySem.Spec PyProof.Rows L2
end Mi
set_option Elab.async false
set_option linter.all false
set_option maxRecDepth 100000
set_option maxHeartbeats 1000000
namespace Mi
open PySem L2
section
variable {α β γ σ ρ κ : Type} {o : Option α} {m a b c : M D} {rest : C} {x y w cc : D} {z z1 z2 z3 : Z} {s s' : List Sl} {h : List D} {Φ : α → Fl → Z → Prop}
theorem dataLe_pk {e : α → D} (k : α → List Int) (hk : ∀ x, pk (e x) = .tuple ((k x).map PyData.int)) (a b : α) : PySem.W.dataLe false pk (e a) (e b) = decide (k a ≤ k b) := by
  rw [PySem.W.dataLe_eq]
  show (!PySem.W.dataLt (pk (e b)) (pk (e a))) = _
  rw [hk, hk, PySem.W.dataLt_tuple]
  have h := PySem.W.dataLt_ints (k b) (k a)
  unfold PySem.W.rowLt at h
  rw [h, Bool.eq_iff_iff]
  simp [List.not_lt]
theorem srtOk_rows {e : α → D} (k : α → List Int) (hk : ∀ x, pk (e x) = .tuple ((k x).map PyData.int)) (hn : ∀ x, k x ≠ []) (xs : List α) : srtOk ((xs.map e).map pk) = true := by
  have ex : ∀ p ∈ (xs.map e).map pk, ∃ x, p = PyData.tuple ((k x).map PyData.int) := fun p hp => by
    obtain ⟨d, hd, rfl⟩ := List.mem_map.mp hp
    obtain ⟨x, _, rfl⟩ := List.mem_map.mp hd
    exact ⟨x, hk x⟩
  have dep : ∀ l : List Int, PyData.depthAll (l.map PyData.int) ≤ 1 := by
    intro l
    induction l with
    | nil => simp [PyData.depthAll]
    | cons i l ih => simp only [List.map_cons, PyData.depthAll, PyData.depth]; omega
  unfold srtOk alikeB sortB
  rw [Bool.and_eq_true, Bool.and_eq_true]
  refine ⟨⟨List.all_eq_true.mpr fun p hp => List.all_eq_true.mpr fun q hq => ?_, ?_⟩, List.all_eq_true.mpr fun p hp => ?_⟩
  · obtain ⟨i, rfl⟩ := ex p hp
    obtain ⟨j, rfl⟩ := ex q hq
    simp only [PySem.W.alike]
    exact PySem.W.alike_ints _ _
  · rw [Bool.or_eq_true]
    refine .inl (List.all_eq_true.mpr fun p hp => ?_)
    obtain ⟨i, rfl⟩ := ex p hp
    have := hn i
    cases hi : k i with
    | nil => exact absurd hi this
    | cons n ns => rfl
  · obtain ⟨i, rfl⟩ := ex p hp
    have := dep (k i)
    rw [decide_eq_true_eq]
    simp only [PyData.depth]
    omega
theorem srt_map {e : α → D} (k : α → List Int) (hk : ∀ x, pk (e x) = .tuple ((k x).map PyData.int)) (xs : List α) : srt pk (xs.map e) = (xs.mergeSort fun a b => decide (k a ≤ k b)).map e := by
  unfold srt
  rw [← PySem.W.sort_maps (r := fun a b => decide (k a ≤ k b)) e fun a _ b _ => (dataLe_pk k hk a b).symm]
/-- sorted(d) -/
theorem ev_sortedDP {e : κ → D} {ks ys : List κ} (k : κ → List Int) (h1 : a z = some (x, z1)) (h2 : dkeys x = some (ks.map e)) (hk : ∀ x, pk (e x) = .tuple ((k x).map PyData.int)) (hn : ∀ x, k x ≠ []) (hy : (if ks.length ≤ szl then some (ks.mergeSort fun a b => decide (k a ≤ k b)) else none) = some ys) : N.sortedD a z = some (ys.map e, z1) := by
  split at hy
  · rename_i hl
    cases hy
    rw [ev_sortedD h1 h2 (by rw [List.length_map]; exact hl) (srtOk_rows k hk hn ks), srt_map k hk]
  · cases hy
theorem dk_keys {Y : TEnc κ} {e : α → D} {f : κ → D} {kvs : List (κ × α)} (hf : ∀ k, .tup ((Y.k k).map dkey) = f k) : dkeys (eT Y e kvs) = some ((kvs.map Prod.fst).map f) := by
  unfold dkeys
  dsimp only
  rw [List.map_map, List.map_map]
  congr 1
  apply List.map_congr_left
  intro kv _
  exact hf kv.1
theorem ev_inL {i : Int} {xs : List Int} {t : Bool} (h1 : a z = some (.int i, z1)) (h2 : b z1 = some (y, z2)) (h3 : cont y z2 = some (t, xs.map eI)) : E.op O.isIn a b z = some (.bl (xs.any fun j => decide (j = i)), z2) := by
  refine ev_op h1 h2 ?_
  unfold O.isIn
  rw [h3]
  dsimp only
  rw [if_pos ⟨rfl, by rw [List.all_map]; exact List.all_eq_true.mpr fun _ _ => rfl⟩, List.any_map]
  congr 2
/-- the data of a value, as PyData of a depth -/
def Dat (e : β → D) (n : Nat) : Prop := ∀ v, ∃ p, O.toP (e v) = some p ∧ p.canLay0 = true ∧ p.depth ≤ n
theorem Dat.I : Dat eI 1 := fun v => ⟨.int v, rfl, rfl, by simp [PyData.depth]⟩
end
end Mi
set_option Elab.async false
set_option linter.all false
set_option maxRecDepth 100000
set_option maxHeartbeats 1000000
namespace Mi
open PySem PySem.Spec PyProof.Rows L2
section
variable {P : Program} {w : World} {mg : Str → Option Value} {base : Heap}
theorem fnD_gok {K : Kx} {x qual : Str} {params : Arguments} {body : List Stmt} {scope : Scope} {dvs : List V} {kws : List (Str × V)} {f : Addr} {fd : FuncData} {N ps : List Str} {k n kk : Nat} {b : C} (F : FunD K x qual params body scope dvs kws f fd) (S : FnScope N ps scope) (hn : N.length = n) (hk : ps.length = kk)
    (hb : ∀ (A : Around) (env : List Env) (sh : Shared) (Hh : Hp) (Ee : XK), A.guards = some [] → Room k (A.deeper (envOfC qual scope sh.heap.objs.size f fd.code)) → PSs (cxOf CX0 P w K mg base N qual scope f fd.code A env sh Hh Ee).nox body (Ts K b)) :
    GOk P w K mg base (k + 1) f fd ps (spM kk K (fn n kk b)) := by
  subst hn hk
  obtain ⟨oc, od, dV, kV, doc, pm, an, cv, ct, osl, rfl, lk, hcd, _, _⟩ := F.ex
  intro A env sh Hh ar us xs Qq Ee gA room e0 bd rx hsp
  have xl : xs.length = ps.length := hsp.1
  have kin : PySem.W.Frag.In K sh.heap := e0.mod.kin.keeps fun p u q => (e0.bs p u q).1
  have lim : sh.heap.NoLimit := e0.mod.nolimit.keeps fun p u q => (e0.bs p u q).1
  have kinds : ∀ y ∈ ps.zip us, scope.names.lookup y.1 = some .local ∨ (scope.names.lookup y.1 = some .cell ∧ ((cellsFrom (sh.heap.objs.size + 1) scope.names []).lookup y.1).isSome = true) := by
    rintro ⟨nm, vv⟩ hy
    cases S.par nm (List.of_mem_zip hy).1 with
    | inl l => exact Or.inl l
    | inr c => exact Or.inr ⟨c, PySem.W.cellsFrom_some _ _ _ (Or.inl c)⟩
  apply codeAny_call_function room.depth (kin _ _ lk) rfl S.co S.gen rfl (PySem.W.codeRec_of kin hcd) (bd _ _ _ _ ?_)
  apply wpAny_newFunctionEnv_cells S.kind kinds
  intro en hen s2 xx
  subst hen
  refine And.intro (lim.keeps xx.toInCall.keep) (codeAny_func ?_)
  have pt := hb A env sh Hh Ee gA (room.deeper _)
  have Iv : Inv (cxOf CX0 P w K mg base N qual scope f cv A env sh Hh Ee) [] (start N xs) Hh s2 := inv_start S room.hd e0 xl rx xx
  apply wpAny_mono (pt.nox.run [] s2 (start N xs) Hh _ Iv (fn_body S hsp)) ?_ (fun _ _ q => q)
  intro fl s3 hs
  have done : ∀ {sg2 : L2.St} {H2 : Hp} {v : V} {u : Value}, Inv (cxOf CX0 P w K mg base N qual scope f cv A env sh Hh Ee) [] sg2 H2 s3 → RelV v u → Qq v H2 → CE env P w Hh sh Qq u s3 := by
    intro sg2 H2 v u J rv q
    exact ⟨v, H2, J.os, J.bare, J.base, J.hok, rv, q⟩
  match fl, hs with
  | .ret u, ⟨v, sg2, H2, J, rv, q⟩ => exact done J rv q
  | .next, ⟨sg2, H2, J, q⟩ => exact done (v := V.non) (u := Value.none) J rfl q
  | .brk, ⟨_, _, _, q⟩ => exact q.elim
  | .cont, ⟨_, _, _, q⟩ => exact q.elim
end
end Mi
set_option Elab.async false
set_option linter.all false
set_option maxRecDepth 100000
set_option maxHeartbeats 400000
namespace Mi
open PySem PySem.Spec PyProof.Rows L2
/-- names from m on are put as what stands there -/
def unr : Nat → Nat → List D → D → D
  | n + 1, m, xs, .tup ds => .tup (ds.map (unr n m xs))
  | n + 1, m, xs, .lst ds => .lst (ds.map (unr n m xs))
  | n + 1, m, xs, .dk kvs => .dk (kvs.map fun kv => (kv.1, unr n m xs kv.2))
  | n + 1, m, xs, .dt kvs => .dt (kvs.map fun kv => (kv.1, unr n m xs kv.2))
  | _ + 1, m, xs, .ref k => if k < m then .ref k else (xs[k - m]?).getD .non
  | _, _, _, d => d
def isLs : D → Bool
  | .lst _ => true
  | _ => false
def unrOk : Nat → Nat → List D → D → Bool
  | n + 1, m, xs, .tup ds => ds.all (unrOk n m xs)
  | n + 1, m, xs, .lst ds => ds.all (unrOk n m xs)
  | n + 1, m, xs, .dk kvs => kvs.all fun kv => unrOk n m xs kv.2
  | n + 1, m, xs, .dt kvs => kvs.all fun kv => unrOk n m xs kv.2
  | _ + 1, m, xs, .ref k => decide (k < m) || (match xs[k - m]? with | some x => isLs x && blw 12 m x | none => false)
  | n, m, _, d => blw n m d
section
variable {K : Kx} {F F' F2 F0 : Hp} {rho t : List Addr} {H : Hp}
theorem Ob.blw {m n : Nat} (hm : rho.length = m) {a : Addr} {d : D} (h : Mi.blw (n + 1) m d = true) (o : Ob K F (rho ++ t) H a d) : Ob K F rho H a d := by
  have ls : ∀ {ds : List D} {vs : List V}, ds.all (Mi.blw n m) = true → Rps K F (rho ++ t) ds vs → Rps K F rho ds vs := fun {ds vs} hd rs => Rps.conv1 (fun d hd2 v r => r.blw hm n (List.all_eq_true.mp hd d hd2)) rs
  have al : ∀ {κ : Type} {kvs : List (κ × D)}, (kvs.all fun kv => Mi.blw n m kv.2) = true → (kvs.map Prod.snd).all (Mi.blw n m) = true := fun {κ kvs} h => by
    rw [List.all_map]
    exact h
  cases d <;> try exact o.elim
  · obtain ⟨qs, e, r, k, l⟩ := o
    exact ⟨qs, e, ls (by simpa only [Mi.blw] using h) r, k, l⟩
  · obtain ⟨xs, e, r⟩ := o
    exact ⟨xs, e, ls (by simpa only [Mi.blw] using h) r⟩
  · obtain ⟨xs, e, k, r⟩ := o
    exact ⟨xs, e, k, ls (al (by simpa only [Mi.blw] using h)) r⟩
  · obtain ⟨xs, e, k, r⟩ := o
    exact ⟨xs, e, k, ls (al (by simpa only [Mi.blw] using h)) r⟩
  · obtain ⟨C, dx, es, c, e, k, r⟩ := o
    exact ⟨C, dx, es, c, e, k, ls (al (by simpa only [Mi.blw] using h)) r⟩
theorem Rp.unr {m : Nat} {xs : List D} (hm : rho.length = m) (sf : Same F F2) (ob : ∀ (j : Nat) (ds : List D) (a : Addr), xs[j]? = some (.lst ds) → Mi.blw 12 m (.lst ds) = true → t[j]? = some a → Rp K F2 rho (.lst ds) (.ref a)) :
    ∀ (n : Nat) {d : D} {v : V}, unrOk n m xs d = true → Rp K F (rho ++ t) d v → Rp K F2 rho (Mi.unr n m xs d) v := by
  intro n
  induction n with
  | zero =>
    intro d v h r
    have h : Mi.blw 0 m d = true := by cases d <;> first | exact h | (simp [unrOk, Mi.blw] at h)
    have e : Mi.unr 0 m xs d = d := by cases d <;> rfl
    rw [e]
    exact (r.blw hm 0 h).mono sf (List.prefix_refl _)
  | succ n ih =>
    intro d v h r
    have ls : ∀ {ds : List D} {vs : List V}, ds.all (unrOk n m xs) = true → Rps K F (rho ++ t) ds vs → Rps K F2 rho (ds.map (Mi.unr n m xs)) vs := fun {ds vs} hd rs => Rps.conv (fun d hd2 v r => ih (List.all_eq_true.mp hd d hd2) r) rs
    have al : ∀ {κ : Type} {kvs : List (κ × D)}, (kvs.all fun kv => unrOk n m xs kv.2) = true → (kvs.map Prod.snd).all (unrOk n m xs) = true := fun {κ kvs} h => by
      rw [List.all_map]
      exact h
    have fs : ∀ {κ : Type} {kvs : List (κ × D)}, (kvs.map fun kv => (kv.1, Mi.unr n m xs kv.2)).map Prod.fst = kvs.map Prod.fst := fun {κ kvs} => by
      rw [List.map_map]; rfl
    have sn : ∀ {κ : Type} {kvs : List (κ × D)}, (kvs.map fun kv => (kv.1, Mi.unr n m xs kv.2)).map Prod.snd = (kvs.map Prod.snd).map (Mi.unr n m xs) := fun {κ kvs} => by
      rw [List.map_map, List.map_map]; rfl
    cases r with
    | non => exact .non
    | bl b => exact .bl b
    | int i => exact .int i
    | str x => exact .str x
    | tup e r => exact .tup (sf _ _ e) (ls (by simpa only [unrOk] using h) r)
    | lst e r => exact .lst (sf _ _ e) (ls (by simpa only [unrOk] using h) r)
    | kt e r => exact (Rp.blw hm (n + 1) (by simpa only [unrOk] using h) (.kt e r)).mono sf (List.prefix_refl _)
    | scr e r => exact (Rp.blw hm (n + 1) (by simpa only [unrOk] using h) (.scr e r)).mono sf (List.prefix_refl _)
    | ins c e k r => exact (Rp.blw hm (n + 1) (by simpa only [unrOk] using h) (.ins c e k r)).mono sf (List.prefix_refl _)
    | dk e k r => exact .dk (sf _ _ e) (k.trans fs.symm) (by rw [sn]; exact ls (al (by simpa only [unrOk] using h)) r)
    | dt e k r => exact .dt (sf _ _ e) (k.trans fs.symm) (by rw [sn]; exact ls (al (by simpa only [unrOk] using h)) r)
    | ref e =>
      rename_i k a
      simp only [unrOk, Bool.or_eq_true, decide_eq_true_eq] at h
      simp only [Mi.unr]
      by_cases c : k < m
      · rw [if_pos c]
        exact .ref (pre_short (by omega) e)
      · rw [if_neg c]
        have h := h.resolve_left c
        split at h
        · rename_i x hx
          rw [Bool.and_eq_true] at h
          rw [hx]
          rw [List.getElem?_append_right (by omega), hm] at e
          cases x <;> try (simp [isLs] at h; done)
          exact ob _ _ _ hx h.2 e
        · cases h
end
open Classical in
/-- a def's end: its shared objects are let go -/
noncomputable def gcV (h : List D) : Option (D × List D) → Option (D × List D)
  | some (d, h') => if h.length ≤ h'.length ∧ (∀ (i : Nat) (x : D), i < h.length → h'[i]? = some x → (h[i]? = some x ∨ blw 12 h.length x = true)) ∧ unrOk 12 h.length (h'.drop h.length) d = true then some (unr 12 h.length (h'.drop h.length) d, h'.take h.length) else none
  | none => none
noncomputable def gcF (mf : Fn) : Fn := fun xs h => gcV h (mf xs h)
theorem gc_ev {mf : Fn} {xs h ext : List D} {d d' : D} (e : mf xs h = some (d, h ++ ext)) (h1 : unrOk 12 h.length ext d = true) (h2 : unr 12 h.length ext d = d') : gcF mf xs h = some (d', h) := by
  unfold gcF gcV
  rw [e]
  dsimp only
  rw [List.drop_left, List.take_left, if_pos, h2]
  exact ⟨by rw [List.length_append]; omega, fun i x hi hx => .inl (by rw [← hx, List.getElem?_append_left hi]), h1⟩
theorem gc_sp {K : Kx} {n : Nat} {mf : Fn} {vs : List V} {H : Hp} {Q : VK} {E : XK} (h : spM n K (gcF mf) vs H Q E) : spM n K mf vs H Q E := by
  obtain ⟨hl, F, rho, h, ds, R, q, d, h1, e, k⟩ := h
  unfold gcF gcV at e
  split at e
  · rename_i d0 h' hm
    split at e
    · rename_i cc
      obtain ⟨c1, c2, c3⟩ := cc
      cases e
      refine ⟨hl, F, rho, h, ds, R, q, d0, h', hm, fun F' rho' H' v s1 p1 r fr nf nr rv => ?_⟩
      obtain ⟨ps, rfl⟩ := p1
      have lr : h.length = rho.length := R.len
      have up : ∀ {n : Nat} {a : Addr}, rho[n]? = some a → (rho ++ ps)[n]? = some a := fun {n a} e => by rw [List.getElem?_append_left (List.getElem?_eq_some_iff.mp e).1]; exact e
      have pg : ∀ {a : Addr}, a ∈ ps → ∃ j : Nat, (rho ++ ps)[j]? = some a ∧ rho.length ≤ j := fun {a} ha => by
        obtain ⟨j, hj, e⟩ := List.getElem_of_mem ha
        exact ⟨rho.length + j, by rw [List.getElem?_append_right (by omega), Nat.add_sub_cancel_left, List.getElem?_eq_getElem hj, e], by omega⟩
      have ne : ∀ {n : Nat} {a : Addr}, rho[n]? = some a → a ∉ ps := fun {n a} e ha => by
        obtain ⟨j, h1, h2⟩ := pg ha
        have h3 := r.inj _ _ _ (up e) h1
        have h4 := (List.getElem?_eq_some_iff.mp e).1
        omega
      have fp : ∀ {a : Addr}, a ∈ ps → F' a = none := fun {a} ha => by
        obtain ⟨j, h1, _⟩ := pg ha
        exact r.nf _ _ h1
      have hp : ∀ {a : Addr}, a ∈ ps → H a = none := fun {a} ha => by
        obtain ⟨j, h1, _⟩ := pg ha
        rcases nr _ _ h1 with ⟨m, h2⟩ | h2
        · exact absurd ha (ne h2)
        · exact h2
      have tp : ∀ p ∈ K.tb.t, p.1 ∉ ps := fun p hp ha => by
        obtain ⟨j, h1, _⟩ := pg ha
        exact r.tr p hp j h1
      let F2 : Hp := fun a => if a ∈ ps then H' a else F' a
      have f2 : ∀ {a : Addr}, a ∉ ps → F2 a = F' a := fun {a} ha => if_neg ha
      have f3 : ∀ {a : Addr}, a ∈ ps → F2 a = H' a := fun {a} ha => if_pos ha
      have sf : Same F' F2 := fun a u e => by
        rw [f2 fun ha => by rw [fp ha] at e; cases e]
        exact e
      have hob : ∀ (j : Nat) (ds : List D) (a : Addr), (h'.drop h.length)[j]? = some (.lst ds) → Mi.blw 12 h.length (.lst ds) = true → ps[j]? = some a → Rp K F2 rho (.lst ds) (.ref a) := fun j ds a e1 e2 e3 => by
        rw [List.getElem?_drop] at e1
        obtain ⟨xs, e4, e5⟩ := r.obs _ _ a e1 (by rw [List.getElem?_append_right (by omega), ← e3]; congr 1; omega)
        refine .lst (by rw [f3 (List.mem_of_getElem? e3)]; exact e4) ?_
        exact (Rps.conv1 (fun d hd v r2 => r2.blw lr.symm 11 (by
          simp only [Mi.blw] at e2
          exact List.all_eq_true.mp e2 d hd)) e5).mono sf (List.prefix_refl _)
      refine k F2 rho H' v (s1.trans sf) (List.prefix_refl _) ?_ fr (fun a o e1 nt e2 e3 => ?_) (fun n a e => .inl ⟨n, e⟩) (Rp.unr lr.symm sf hob 12 c3 rv)
      · refine ⟨fun a u e => ?_, by rw [List.length_take, ← lr]; omega, fun n x a e1 e2 => ?_, fun i j a e1 e2 => r.inj i j a (up e1) (up e2), fun n a e => by rw [f2 (ne e)]; exact r.nf n a (up e), r.tb.mono sf (fun _ _ => rfl) (fun p hp => by rw [f2 (tp p hp)]; exact r.tb.nf p hp), fun p hp n e => r.tr p hp n (up e)⟩
        · by_cases c : a ∈ ps
          · rw [f3 c] at e
            exact e
          · rw [f2 c] at e
            exact r.fro _ _ e
        · have hn : n < h.length := by
            have := (List.getElem?_eq_some_iff.mp e1).1
            rw [List.length_take] at this
            omega
          rw [List.getElem?_take_of_lt hn] at e1
          have o := r.obs n x a e1 (up e2)
          rcases c2 n x hn e1 with c | c
          · exact (Ob.short (R.obs n x a c e2) o).mono sf (List.prefix_refl _) rfl
          · exact (Ob.blw lr.symm c o).mono sf (List.prefix_refl _) rfl
      · have c : a ∉ ps := fun ha => by
          rw [hp ha] at e1
          cases e1
        rw [f2 c]
        exact nf a o e1 nt e2 e3
    · cases e
  · cases e
end Mi
set_option Elab.async false
set_option linter.all false
set_option maxRecDepth 100000
set_option maxHeartbeats 400000
namespace Mi
open PySem PySem.Spec PyProof.Rows L2
end Mi
set_option Elab.async false
set_option linter.all false
set_option maxRecDepth 100000
set_option maxHeartbeats 400000
namespace Mi
open PySem L2
theorem cont_ref {n : Nat} {ds : List D} {z : Z} (hn : z.h[n]? = some (.lst ds)) : cont (.ref n) z = some (false, ds) := by
  unfold cont
  dsimp only
  rw [hn]
theorem get_at {h l : List D} {j : Nat} {d : D} (hj : l[j]? = some d) : (h ++ l)[h.length + j]? = some d := by
  rw [List.getElem?_append_right (Nat.le_add_right _ _), Nat.add_sub_cancel_left]
  exact hj
theorem set_at {h l : List D} {j : Nat} {d : D} : (h ++ l).set (h.length + j) d = h ++ l.set j d := by
  rw [List.set_append_right _ _ (Nat.le_add_right _ _), Nat.add_sub_cancel_left]
section
variable {α β γ δ ε ζ κ : Type}
/-- no name in any e x, n levels deep -/
def BlE (n : Nat) (e : α → D) : Prop := ∀ (x : α) (m : Nat), blw n m (e x) = true
theorem blw_up {m : Nat} : ∀ (n : Nat) {d : D}, blw n m d = true → blw (n + 1) m d = true
  | 0, d, h => by cases d <;> first | rfl | (simp [blw] at h)
  | n + 1, d, h => by
    have all : ∀ {ι : Type} {l : List ι} {f : ι → D}, (l.all fun x => blw n m (f x)) = true → (l.all fun x => blw (n + 1) m (f x)) = true := fun {ι l f} h => List.all_eq_true.mpr fun x hx => blw_up n (List.all_eq_true.mp h x hx)
    cases d with
    | non => rfl
    | bl b => rfl
    | int i => rfl
    | str x => rfl
    | tup xs => simp only [blw] at h ⊢; exact all (f := fun x => x) h
    | kt xs => simp only [blw] at h ⊢; exact all (f := fun x => x) h
    | lst xs => simp only [blw] at h ⊢; exact all (f := fun x => x) h
    | scr xs => simp only [blw] at h ⊢; exact all (f := fun x => x) h
    | ref k => simpa only [blw] using h
    | own i => simp [blw] at h
    | dk kvs => simp only [blw] at h ⊢; exact all (f := fun x : _ × D => x.2) h
    | dt kvs => simp only [blw] at h ⊢; exact all (f := fun x : _ × D => x.2) h
    | ins nm fs => simp only [blw] at h ⊢; exact all (f := fun x : _ × D => x.2) h
theorem blw_mono {m n k : Nat} {d : D} (h : blw n m d = true) (hk : n ≤ k) : blw k m d = true := by
  obtain ⟨j, rfl⟩ := Nat.exists_eq_add_of_le hk
  clear hk
  induction j with
  | zero => exact h
  | succ j ih => exact blw_up _ ih
theorem BlE.mono {n k : Nat} {e : α → D} (h : BlE n e) (hk : n ≤ k) : BlE k e := fun x m => blw_mono (h x m) hk
theorem BlE.I : BlE 0 eI := fun x m => by simp [blw]
theorem BlE.N : BlE 0 eN := fun x m => by simp [blw]
theorem BlE.L {n : Nat} {e : α → D} (h : BlE n e) : BlE (n + 1) (eL e) := fun x m => by
  show blw (n + 1) m (.lst (x.map e)) = true
  simp only [blw, List.all_map]
  exact List.all_eq_true.mpr fun y _ => h y m
theorem BlE.T {n : Nat} {Y : TEnc κ} {e : α → D} (h : BlE n e) : BlE (n + 1) (eT Y e) := fun x m => by
  show blw (n + 1) m (.dt (x.map fun kv => (Y.k kv.1, e kv.2))) = true
  simp only [blw, List.all_map]
  exact List.all_eq_true.mpr fun y _ => h y.2 m
theorem BlE.K {n : Nat} {Y : KEnc κ} {e : α → D} (h : BlE n e) : BlE (n + 1) (eK Y e) := fun x m => by
  show blw (n + 1) m (.dk (x.map fun kv => (Y.k kv.1, e kv.2))) = true
  simp only [blw, List.all_map]
  exact List.all_eq_true.mpr fun y _ => h y.2 m
theorem blw_tup {n m : Nat} {ds : List D} (h : ∀ d ∈ ds, blw n m d = true) : blw (n + 1) m (.tup ds) = true := by
  simp only [blw]
  exact List.all_eq_true.mpr h
theorem BlE.t2 {n : Nat} {a : α → D} {b : β → D} (h1 : BlE n a) (h2 : BlE n b) : BlE (n + 1) (e2 a b) := fun x m => blw_tup fun d hd => by
  simp only [List.mem_cons, List.not_mem_nil, or_false] at hd
  rcases hd with rfl | rfl
  · exact h1 _ m
  · exact h2 _ m
theorem BlE.t4 {n : Nat} {a : α → D} {b : β → D} {c : γ → D} {d' : δ → D} (h1 : BlE n a) (h2 : BlE n b) (h3 : BlE n c) (h4 : BlE n d') : BlE (n + 1) (e4 a b c d') := fun x m => blw_tup fun d hd => by
  simp only [List.mem_cons, List.not_mem_nil, or_false] at hd
  rcases hd with rfl | rfl | rfl | rfl
  · exact h1 _ m
  · exact h2 _ m
  · exact h3 _ m
  · exact h4 _ m
end
section
variable {α β κ : Type}
variable [DecidableEq κ]
theorem getG_cons {κ' α' : Type} [DecidableEq κ'] {k k' : κ'} {v : α'} {r : List (κ' × α')} : getG ((k', v) :: r) k = if k' = k then some v else getG r k := by
  unfold getG
  rw [List.find?_cons]
  by_cases e : k' = k
  · rw [decide_eq_true e, if_pos e]; rfl
  · rw [decide_eq_false e, if_neg e]
end
end Mi
set_option Elab.async false
set_option linter.all false
set_option maxRecDepth 100000
set_option maxHeartbeats 400000
namespace Mi
open PySem PySem.Spec L2
theorem gc_ok {P : Program} {w : World} {K : Kx} {mg : Str → Option Value} {base : Heap} {CX : CXT} {k n : Nat} {f : Addr} {fd : FuncData} {ps : List Str} {mf : Fn} (F : FnOk P w K.k mg base CX k f fd ps (spM n K mf)) : FnOk P w K.k mg base CX k f fd ps (spM n K (gcF mf)) :=
  F.imp fun _ _ _ _ h => gc_sp h
section
variable {α β : Type}
/-- what stands where -/
inductive Al2 {α β : Type} (P : α → β → Prop) : List α → List β → Prop
  | nil : Al2 P [] []
  | cons {x : α} {y : β} {xs : List α} {ys : List β} : P x y → Al2 P xs ys → Al2 P (x :: xs) (y :: ys)
theorem Al2.length {α β : Type} {P : α → β → Prop} {xs : List α} {ys : List β} (h : Al2 P xs ys) : xs.length = ys.length := by
  induction h with
  | nil => rfl
  | cons _ _ ih => rw [List.length_cons, List.length_cons, ih]
end
end Mi
set_option Elab.async false
set_option linter.all false
set_option maxRecDepth 100000
set_option maxHeartbeats 400000
namespace Mi
open PySem PySem.Spec PyProof.Rows L2
theorem ev_as {m : M D} {z z1 : Z} {d d' : D} (h : m z = some (d', z1)) (e : d' = d) : m z = some (d, z1) := by subst e; exact h
end Mi
set_option Elab.async false
set_option linter.all false
set_option maxRecDepth 100000
set_option maxHeartbeats 400000
namespace PySem.W
open PySem PySem.Calls PyProof.Rows
end PySem.W
namespace Mi
open PySem PySem.Spec PyProof.Rows L2 PySem.W
section
variable {α β γ : Type}
def shL (b : Nat) (n : Nat) : List D := (List.range n).map fun i => D.ref (b + i)
def hcL (e : α → D) (xss : List (List α)) : List D := xss.map fun xs => .lst (xs.map e)
theorem shL_len {b n : Nat} : (shL b n).length = n := by unfold shL; simp
theorem shL_get {b n i : Nat} (h : i < n) : (shL b n)[i]? = some (.ref (b + i)) := by
  unfold shL
  rw [List.getElem?_map, List.getElem?_range h]
  rfl
/-- [[] for _ in xs] -/
def Pl.llNew (α : Type) (n : Nat) : Option (List (List α)) := if n ≤ szl then some (List.replicate n []) else none
/-- xss[i].append(v) -/
def Pl.llApp (xss : List (List α)) (i : Int) (v : α) : Option (List (List α)) := match ixN xss.length i with
  | some j => match xss[j]? with
    | some xs => if xs.length < szl then some (xss.set j (xs ++ [v])) else none
    | none => none
  | none => none
theorem Rf.llNew {rest : C} {Φ : γ → Fl → Z → Prop} {i v n : Nat} {mi : M It} {ds : List D} {s : List Sl} {s' : List (List α) → List Sl} {h : List D} {x0 : Sl} {K : List (List α) → Option γ} (e : α → D) (h1 : mi ⟨s, h⟩ = some (⟨ds, Option.none⟩, ⟨s, h⟩)) (hl : ds.length = n) (hv : s[v]? = some x0) (ho : N.isOwn (some x0) = false)
    (hs : ∀ r : List (List α), s.set i (.val (.lst (shL h.length r.length))) = s' r) (k : ∀ r, Rf (K r) rest ⟨s' r, h ++ hcL e r⟩ Φ) :
    Rf ((Pl.llNew α n).bind K) (C.seq (C.set i (E.frz (N.comp mi (G.nm v) [v] (Mi.ret true) (E.shr (N.disp []))))) rest) ⟨s, h⟩ Φ := by
  subst hl
  refine Rf.bd fun r hr => ?_
  unfold Pl.llNew at hr
  split at hr
  · rename_i hl
    cases hr
    have q := comp_shr h1 rfl hl hv ho
    have eh : List.replicate ds.length (D.lst []) = hcL e (List.replicate ds.length []) := by
      unfold hcL
      rw [List.map_replicate]
      rfl
    dsimp only at q
    rw [eh] at q
    exact Rf.set0 (d := .lst (shL h.length ds.length)) (ev_frz q) rfl (by rw [← hs, List.length_replicate]) (k _)
  · cases hr
theorem Rf.llApp {rest : C} {Φ : γ → Fl → Z → Prop} {i : Nat} {mi mv : M D} {s : List Sl} {s' : List (List α) → List Sl} {h : List D} {xss : List (List α)} {j : Int} {v : α} {K : List (List α) → Option γ} (e : α → D)
    (hi : s[i]? = some (.val (.lst (shL h.length xss.length)))) (hs : ∀ r : List (List α), s.set i (.val (.lst (shL h.length r.length))) = s' r) (hmi : mi ⟨s, h ++ hcL e xss⟩ = some (.int j, ⟨s, h ++ hcL e xss⟩))
    (h2 : mv ⟨s, h ++ hcL e xss⟩ = some (e v, ⟨s, h ++ hcL e xss⟩)) (hp : isPure (e v) = true) (k : ∀ r : List (List α), Rf (K r) rest ⟨s' r, h ++ hcL e r⟩ Φ) :
    Rf ((Pl.llApp xss j v).bind K) (C.seq (C.drop (E.chg U.append (E.op O.ix (E.var i) mi) [mv])) rest) ⟨s, h ++ hcL e xss⟩ Φ := by
  refine Rf.bd fun r hr => ?_
  unfold Pl.llApp at hr
  split at hr
  · rename_i jn hj
    split at hr
    · rename_i xs hx
      split at hr
      · rename_i c1
        cases hr
        have hlt : jn < xss.length := (List.getElem?_eq_some_iff.mp hx).1
        have hil := (List.getElem?_eq_some_iff.mp hi).1
        have hv : E.var i ⟨s, h ++ hcL e xss⟩ = some (.lst (shL h.length xss.length), ⟨s, h ++ hcL e xss⟩) := by
          unfold E.var
          dsimp only
          rw [hi]
        have at1 : atI (shL h.length xss.length) j = some (.ref (h.length + jn)) := by
          unfold atI
          rw [shL_len, hj]
          exact shL_get hlt
        have e1 := ev_ix (ds := shL h.length xss.length) hv hmi rfl at1
        have q1 : (hcL e xss)[jn]? = some (.lst (xs.map e)) := by
          unfold hcL
          rw [List.getElem?_map, hx]
          rfl
        have hc : cont (.ref (h.length + jn)) ⟨s, h ++ hcL e xss⟩ = some (false, xs.map e) := cont_ref (get_at q1)
        have es : s' (xss.set jn (xs ++ [v])) = s := by
          rw [← hs, List.length_set]
          refine List.ext_getElem? fun q => ?_
          by_cases c : i = q
          · subst c; rw [List.getElem?_set_self hil, hi]
          · rw [List.getElem?_set_ne c]
        have ev : E.chg U.append (E.op O.ix (E.var i) mi) [mv] ⟨s, h ++ hcL e xss⟩ = some (.non, ⟨s' (xss.set jn (xs ++ [v])), h ++ hcL e (xss.set jn (xs ++ [v]))⟩) := by
          unfold E.chg
          rw [bnd, e1]
          dsimp only
          rw [if_pos (show E.isLst (.ref (h.length + jn)) ⟨s, h ++ hcL e xss⟩ = true by unfold E.isLst; dsimp only; rw [hc]; rfl)]
          rw [bnd, ev_args h2 ev_args0 hp]
          dsimp only
          unfold E.chgF
          dsimp only
          rw [get_at q1]
          dsimp only
          unfold U.append
          dsimp only
          rw [if_pos (by rw [List.length_map]; exact c1)]
          dsimp only
          rw [set_at, es]
          unfold hcL
          rw [List.map_set, show List.map e xs ++ [e v] = List.map e (xs ++ [v]) by rw [List.map_append]; rfl]
        exact Rf.drop ev (k _)
      · cases hr
    · cases hr
  · cases hr
theorem unr_shL {e : α → D} {m : Nat} (hb : BlE 8 e) {xss : List (List α)} : ((shL m xss.length).all fun d => unrOk 11 m (hcL e xss) d) = true ∧ ((shL m xss.length).map fun d => unr 11 m (hcL e xss) d) = xss.map (eL e) := by
  have key : ∀ i, i < xss.length → ∃ xs, xss[i]? = some xs ∧ unrOk 11 m (hcL e xss) (.ref (m + i)) = true ∧ unr 11 m (hcL e xss) (.ref (m + i)) = eL e xs := fun i hi => by
    have hx : (hcL e xss)[i]? = some (.lst (xss[i].map e)) := by
      unfold hcL
      rw [List.getElem?_map, List.getElem?_eq_getElem hi]
      rfl
    refine ⟨xss[i], List.getElem?_eq_getElem hi, ?_, ?_⟩
    · simp only [unrOk, Nat.add_sub_cancel_left, hx]
      have := BlE.mono (BlE.L hb) (by decide : 9 ≤ 12) xss[i] m
      show (decide (m + i < m) || (isLs _ && blw 12 m (eL e xss[i]))) = true
      rw [this]
      simp [isLs]
    · simp only [unr, Nat.add_sub_cancel_left, hx]
      rw [if_neg (by omega)]
      rfl
  constructor
  · rw [List.all_eq_true]
    intro d hd
    obtain ⟨i, hi, rfl⟩ := List.mem_map.mp hd
    obtain ⟨_, _, h, _⟩ := key i (List.mem_range.mp hi)
    exact h
  · refine List.ext_getElem? fun i => ?_
    by_cases c : i < xss.length
    · obtain ⟨xs, h1, _, h3⟩ := key i c
      rw [List.getElem?_map, List.getElem?_map, shL_get c, h1]
      exact congrArg some h3
    · rw [List.getElem?_eq_none (by rw [List.length_map, shL_len]; omega), List.getElem?_eq_none (by rw [List.length_map]; omega)]
theorem gc_shL {mf : Fn} {xs h : List D} {e : α → D} {xss : List (List α)} {n : Nat} (hb : BlE n e) (hn : n ≤ 8) (q : mf xs h = some (.lst (shL h.length xss.length), h ++ hcL e xss)) : gcF mf xs h = some (eL (eL e) xss, h) := by
  have u := unr_shL (m := h.length) (BlE.mono hb hn) (xss := xss)
  refine gc_ev q ?_ ?_
  · show ((shL h.length xss.length).all fun d => unrOk 11 h.length (hcL e xss) d) = true
    exact u.1
  · show D.lst ((shL h.length xss.length).map fun d => unr 11 h.length (hcL e xss) d) = _
    congr 1
    exact u.2
end
end Mi
set_option Elab.async false
set_option linter.all false
set_option maxRecDepth 100000
set_option maxHeartbeats 400000
namespace Mi
open PySem L2
section
variable {α β γ κ : Type}
structure KO (e : α → D) (k : α → List Int) (n d : Nat) : Prop where
  p : ∃ q : α → PyData, (∀ x, O.toP (e x) = some (q x)) ∧ (∀ x y, PySem.W.alike (q x) (q y) = true) ∧ (∀ x, (q x).depth ≤ d) ∧ (∀ x y, PyData.eqv (q x) (q y) = true ↔ k x = k y) ∧ (∀ x y, PySem.W.dataLt (q x) (q y) = decide (k x < k y)) ∧ ∀ x, (k x).length = n
structure KR (es : α → List D) (k : α → List Int) (n d : Nat) : Prop where
  p : ∃ qs : α → List PyData, (∀ x, O.toPs (es x) = some (qs x)) ∧ (∀ x y, PySem.W.alikeAll (qs x) (qs y) = true) ∧ (∀ x, PyData.depthAll (qs x) ≤ d) ∧ (∀ x y, PyData.eqvAll (qs x) (qs y) = true ↔ k x = k y) ∧ (∀ x y, PySem.W.rowLt (qs x) (qs y) = decide (k x < k y)) ∧ ∀ x, (k x).length = n
theorem app_lt {a b a' b' : List Int} (h : a.length = a'.length) : a ++ b < a' ++ b' ↔ a < a' ∨ (a = a' ∧ b < b') := by
  induction a generalizing a' with
  | nil =>
    cases a' with
    | nil => simp
    | cons _ _ => simp at h
  | cons x a ih =>
    cases a' with
    | nil => simp at h
    | cons y a' =>
      have := ih (a' := a') (by simpa using h)
      rw [List.cons_append, List.cons_append, List.cons_lt_cons_iff, List.cons_lt_cons_iff, this, List.cons.injEq]
      constructor
      · rintro (g | ⟨e, g | ⟨e2, g⟩⟩)
        · exact .inl (.inl g)
        · exact .inl (.inr ⟨e, g⟩)
        · exact .inr ⟨⟨e, e2⟩, g⟩
      · rintro ((g | ⟨e, g⟩) | ⟨⟨e, e2⟩, g⟩)
        · exact .inl g
        · exact .inr ⟨e, .inl g⟩
        · exact .inr ⟨e, .inr ⟨e2, g⟩⟩
theorem KO.int : KO eI (fun i => [i]) 1 0 := by
  refine ⟨fun i => .int i, fun _ => rfl, fun _ _ => by simp [PySem.W.alike], fun _ => by simp [PyData.depth], fun x y => by simp [PyData.eqv], fun x y => ?_, fun _ => rfl⟩
  rw [PySem.W.dataLt_int]
  congr 1
  simp [List.cons_lt_cons_iff]
theorem KO.comp {e : α → D} {k : α → List Int} {n d : Nat} (h : KO e k n d) (f : β → α) : KO (fun x => e (f x)) (fun x => k (f x)) n d := by
  obtain ⟨q, h1, h2, h3, h4, h5, h6⟩ := h.p
  exact ⟨fun x => q (f x), fun x => h1 _, fun x y => h2 _ _, fun x => h3 _, fun x y => h4 _ _, fun x y => h5 _ _, fun x => h6 _⟩
theorem KR.nil : KR (fun _ : α => []) (fun _ => []) 0 0 :=
  ⟨fun _ => [], fun _ => rfl, fun _ _ => by simp [PySem.W.alikeAll], fun _ => by simp [PyData.depthAll], fun _ _ => by simp [PyData.eqvAll], fun _ _ => by
    have : PySem.W.rowLt [] [] = false := PyProof.Rows.lex_irrefl _
    rw [this]; simp, fun _ => rfl⟩
theorem KR.cons {e : α → D} {es : α → List D} {k1 k2 : α → List Int} {n m d : Nat} (h : KO e k1 n d) (t : KR es k2 m d) : KR (fun x => e x :: es x) (fun x => k1 x ++ k2 x) (n + m) d := by
  obtain ⟨q, h1, h2, h3, h4, h5, h6⟩ := h.p
  obtain ⟨qs, t1, t2, t3, t4, t5, t6⟩ := t.p
  refine ⟨fun x => q x :: qs x, fun x => by rw [O.toPs, h1, t1], fun x y => by simp [PySem.W.alikeAll, h2, t2], fun x => ?_, fun x y => ?_, fun x y => ?_, fun x => by rw [List.length_append, h6, t6]⟩
  · have := h3 x
    have := t3 x
    simp only [PyData.depthAll]
    omega
  · simp only [PyData.eqvAll, Bool.and_eq_true]
    rw [h4, t4]
    exact ⟨fun ⟨a, b⟩ => by rw [a, b], fun h => List.append_inj h (by rw [h6, h6])⟩
  · unfold PySem.W.rowLt
    rw [PySem.W.dataLt_cons (h2 x y)]
    have e5 := t5 x y
    unfold PySem.W.rowLt at e5
    rw [e5, h5]
    have la : (k1 x).length = (k1 y).length := by rw [h6, h6]
    by_cases c : k1 x = k1 y
    · rw [if_pos ((h4 x y).mpr c)]
      rw [Bool.eq_iff_iff, decide_eq_true_eq, decide_eq_true_eq, app_lt la]
      exact ⟨fun h => .inr ⟨c, h⟩, fun h => by
        rcases h with h | h
        · rw [c] at h; exact absurd h (List.lt_irrefl _)
        · exact h.2⟩
    · rw [if_neg (fun h => c ((h4 x y).mp h))]
      rw [Bool.eq_iff_iff, decide_eq_true_eq, decide_eq_true_eq, app_lt la]
      exact ⟨.inl, fun h => by
        rcases h with h | h
        · exact h
        · exact absurd h.1 c⟩
theorem KO.mono {e : α → D} {k : α → List Int} {n d d' : Nat} (h : KO e k n d) (hd : d ≤ d') : KO e k n d' := by
  obtain ⟨q, h1, h2, h3, h4⟩ := h.p
  exact ⟨q, h1, h2, fun x => Nat.le_trans (h3 x) hd, h4⟩
theorem KR.mono {e : α → List D} {k : α → List Int} {n d d' : Nat} (h : KR e k n d) (hd : d ≤ d') : KR e k n d' := by
  obtain ⟨q, h1, h2, h3, h4⟩ := h.p
  exact ⟨q, h1, h2, fun x => Nat.le_trans (h3 x) hd, h4⟩
theorem KO.tup {es : α → List D} {k : α → List Int} {n d : Nat} (h : KR es k n d) : KO (fun x => .tup (es x)) k n (d + 1) := by
  obtain ⟨qs, h1, h2, h3, h4, h5, h6⟩ := h.p
  refine ⟨fun x => .tuple (qs x), fun x => by rw [O.toP, h1]; rfl, fun x y => by simp [PySem.W.alike, h2], fun x => ?_, fun x y => by simp only [PyData.eqv]; exact h4 x y, fun x y => ?_, h6⟩
  · have := h3 x
    simp only [PyData.depth]
    omega
  · rw [PySem.W.dataLt_tuple]
    exact h5 x y
end
end Mi
set_option Elab.async false
set_option linter.all false
set_option maxRecDepth 100000
set_option maxHeartbeats 1000000
namespace Mi
open PySem PySem.Spec PyProof.Rows L2
end Mi
set_option Elab.async false
set_option linter.all false
set_option maxRecDepth 100000
set_option maxHeartbeats 1000000
namespace Mi
open PySem PySem.Spec PyProof.Rows L2
section
variable {α β γ δ ε : Type}
@[reducible] def h2 (a : α → D) (b : β → D) (p : α × β) : D := .lst [a p.1, b p.2]
@[reducible] def h3 (a : α → D) (b : β → D) (c : γ → D) (p : α × β × γ) : D := .lst [a p.1, b p.2.1, c p.2.2]
@[reducible] def h4 (a : α → D) (b : β → D) (c : γ → D) (d : δ → D) (p : α × β × γ × δ) : D := .lst [a p.1, b p.2.1, c p.2.2.1, d p.2.2.2]
end
end Mi
set_option Elab.async false
set_option linter.all false
set_option maxRecDepth 100000
set_option maxHeartbeats 1000000
namespace L2
open PySem PySem.Spec PyProof.Rows
end L2
set_option Elab.async false
set_option linter.all false
set_option maxRecDepth 100000
set_option maxHeartbeats 1000000
namespace L2
open PySem PySem.Spec PyProof.Rows
end L2
namespace Mi
open PySem PySem.Spec PyProof.Rows L2
/-- an own exception: its class by name, its field, the text in it -/
structure Xn where
  nm : Str
  fd : Str
  s : Str
inductive FX where
  | fl (f : Fl) | ex (x : Xn)
abbrev CE := Z → Option (FX × Z)
abbrev ME := Z → Option ((D ⊕ Xn) × Z)
abbrev FnE := List D → List D → Option ((D ⊕ Xn) × List D)
namespace CE
def seq (a b : CE) : CE := fun z => match a z with
  | some (.fl .nx, z1) => b z1
  | r => r
def ite (t : M Bool) (a b : CE) : CE := fun z => match t z with
  | some (true, z1) => a z1
  | some (false, z1) => b z1
  | none => none
def drop (e : ME) : CE := fun z => match e z with
  | some (.inl _, z1) => some (.fl .nx, z1)
  | some (.inr x, z1) => some (.ex x, z1)
  | none => none
def ret (e : ME) : CE := fun z => match e z with
  | some (.inl d, z1) => if isPure d = true then some (.fl (.rt d), z1) else none
  | some (.inr x, z1) => some (.ex x, z1)
  | none => none
end CE
namespace EE
def call (mf : FnE) (as : List (M D)) : ME := fun z => match E.args as z with
  | some (xs, z1) => match mf xs z1.h with
    | some (r, h') => some (r, ⟨z1.s, h'⟩)
    | none => none
  | none => none
end EE
def exAt (K : Kx) (x : Xn) (H : Hp) (C dd : Addr) : Prop := (x.nm, C) ∈ K.tb.c ∧ H dd = some (.xd [(x.fd, .str x.s)])
def PostX (K : Kx) (W : WX) (B : Bs) (F : Hp) (rho : List Addr) (D : L2.Ends) (z' : Z) : FX → Prop
  | .fl f => Post K B F rho D z' f
  | .ex x => ∀ F' rho' om' σ' H' C dd, Same F F' → rho <+: rho' → Rl K B F' rho' om' z' σ' H' → exAt K x H' C dd → W (.ref C) (some dd) σ' H'
theorem PostX.mono {K : Kx} {W : WX} {B : Bs} {F F1 : Hp} {rho rho1 : List Addr} {D : L2.Ends} {z' : Z} {f : FX} (s : Same F F1) (p : rho <+: rho1) (h : PostX K W B F rho D z' f) : PostX K W B F1 rho1 D z' f := by
  cases f with
  | fl f => exact Post.mono s p h
  | ex x => exact fun F' rho' om' σ' H' C dd s' p' R => h F' rho' om' σ' H' C dd (s.trans s') (p.trans p') R
end Mi
set_option Elab.async false
set_option linter.all false
set_option maxRecDepth 100000
set_option maxHeartbeats 1000000
namespace Mi
open PySem PySem.Spec PyProof.Rows L2
end Mi
set_option Elab.async false
set_option linter.all false
set_option maxRecDepth 100000
set_option maxHeartbeats 1000000
namespace Mi
open PySem PySem.Spec PyProof.Rows L2
end Mi
set_option Elab.async false
set_option linter.all false
set_option maxRecDepth 100000
set_option maxHeartbeats 1000000
namespace Mi
open PySem PySem.Spec PyProof.Rows L2
section
variable {α β γ : Type} {z z1 : Z} {s s' s2 : List Sl} {h h1 : List D}
theorem map_erase {f : α → β} : ∀ (xs : List α) (k : Nat), (xs.map f).eraseIdx k = (xs.eraseIdx k).map f
  | [], _ => rfl
  | _ :: _, 0 => rfl
  | x :: xs, k + 1 => by simp [map_erase xs k]
def Pl.popAt (xs : List α) (j : Int) : Option (α × List α) := if -(2 ^ 63) ≤ j ∧ j < 2 ^ 63 then (ixN xs.length j).bind fun k => (xs[k]?).bind fun x => some (x, xs.eraseIdx k) else none
theorem Rf.popAtG {δ : Type} {Φ : δ → Fl → Z → Prop} {rest : C} {i : Nat} {g : G} {m : M D} {xs : List α} {j : Int} {K : α × List α → Option δ} (e : α → D) (hi : s[i]? = some (.own (.lst (xs.map e)))) (hm : m ⟨s, h⟩ = some (.int j, ⟨s, h1⟩)) (hp : ∀ x, isPure (e x) = true) {s1 s' : α × List α → List Sl} (hs : ∀ n : α × List α, s.set i (.own (.lst (n.2.map e))) = s1 n) (hg : ∀ n : α × List α, g.run (e n.1) ⟨s1 n, h1⟩ = some ⟨s' n, h1⟩)
    (k : ∀ n, Rf (K n) rest ⟨s' n, h1⟩ Φ) : Rf ((Pl.popAt xs j).bind K) (C.seq (C.asg g (E.chg U.popAt (E.var i) [m])) rest) ⟨s, h⟩ Φ := Rf.bd fun n hn => by
  unfold Pl.popAt at hn
  split at hn
  · rename_i hc
    obtain ⟨kk, h2, h3⟩ := bI hn
    obtain ⟨x, h4, h5⟩ := bI h3
    cases h5
    refine Rf.asg0 (d := e x) (z1 := ⟨s1 (x, xs.eraseIdx kk), h1⟩) (ev_chgN (ev_varO hi) hi (ev_args hm ev_args0 rfl) hi (?_ : U.popAt _ _ = some (e x, (xs.eraseIdx kk).map e)) (hs (x, xs.eraseIdx kk))) (hp x) (hg (x, xs.eraseIdx kk)) (k (x, xs.eraseIdx kk))
    unfold U.popAt
    dsimp only
    rw [if_pos hc, List.length_map, h2]
    dsimp only
    rw [List.getElem?_map, h4]
    dsimp only [Option.map_some]
    rw [map_erase]
  · cases hn
end
end Mi
set_option Elab.async false
set_option linter.all false
set_option maxRecDepth 100000
set_option maxHeartbeats 1000000
namespace L2
open PySem PySem.Spec PyProof.Rows
end L2
namespace Mi
open PySem PySem.Spec PyProof.Rows L2
open Classical in
noncomputable def EE.mk (nm : Str) (mf : FnE) (g : List D → List D) (ms : List (M D)) : ME := fun z => match E.args ms z with
  | some (xs, z1) => match mf (.ref z1.h.length :: g xs) (z1.h ++ [.ins nm []]) with
    | some (.inl d0, h') => match mkV z1.h (some (d0, h')) with
      | some d => some (.inl d, z1)
      | none => none
    | some (.inr x, h') => if ∃ nm2 fs, h' = z1.h ++ [.ins nm2 fs] then some (.inr x, z1) else none
    | none => none
  | none => none
end Mi
set_option Elab.async false
set_option linter.all false
set_option maxRecDepth 100000
set_option maxHeartbeats 1000000
namespace L2
open PySem PySem.Spec PyProof.Rows
end L2
namespace Mi
open PySem PySem.Spec PyProof.Rows L2
end Mi
set_option Elab.async false
set_option linter.all false
set_option maxRecDepth 100000
set_option maxHeartbeats 1000000
namespace Mi
open PySem PySem.Spec PyProof.Rows L2
end Mi
set_option Elab.async false
set_option linter.all false
set_option maxRecDepth 100000
set_option maxHeartbeats 1000000
namespace Mi
open PySem PySem.Spec PyProof.Rows L2
end Mi
namespace L2.DX
open PySem PySem.Spec PyProof.Rows
end L2.DX
namespace Mi
open PySem PySem.Spec PyProof.Rows L2
end Mi
set_option Elab.async false
set_option linter.all false
set_option maxRecDepth 100000
set_option maxHeartbeats 1000000
namespace Mi
open PySem PySem.W PySem.Spec PyProof.Rows L2
end Mi
set_option Elab.async false
set_option linter.all false
set_option maxRecDepth 100000
set_option maxHeartbeats 1000000
namespace Mi
open PySem PySem.W PySem.Spec PyProof.Rows L2
end Mi
set_option Elab.async false
set_option linter.all false
set_option maxRecDepth 100000
set_option maxHeartbeats 1000000
namespace Mi
open PySem PySem.Spec PyProof.Rows L2
def atD : D → Bool
  | .non => true
  | .bl _ => true
  | .int _ => true
  | _ => false
def flA : D → Bool
  | .tup xs => xs.all atD
  | d => atD d
def flD : D → Bool
  | .tup xs => xs.all atD
  | .lst xs => xs.all flA
  | d => atD d
def E.lk (n : Nat) (m : M D) : M D := fun z => match z.s[n]? with
  | some (.own (.dt kvs)) => match m ⟨(List.replicate z.s.length Sl.no).set n (.val (.dt kvs)), []⟩ with
    | some (d, z') => if ((kvs.map Prod.snd).all flD && (flD d && z'.h.isEmpty)) = true then some (d, z) else none
    | none => none
  | _ => none
section
variable {K : Kx} {F F' : Hp} {rho rho' : List Addr}
theorem Rp.atom {d : D} {v : V} (r : Rp K F rho d v) (h : atD d = true) : Rp K F' rho' d v := by
  cases d <;> first | (cases h; done) | (cases r; constructor)
theorem Rps.atoms : ∀ {ds : List D} {vs : List V}, Rps K F rho ds vs → ds.all atD = true → Rps K F' rho' ds vs
  | _, _, .nil, _ => .nil
  | _, _, .cons h r, q => by
    rw [List.all_cons, Bool.and_eq_true] at q
    exact .cons (h.atom q.1) (Rps.atoms r q.2)
theorem Rp.flatA {d : D} {v : V} (r : Rp K F rho d v) (h : flA d = true) (e : ∀ a o, F a = some o → (∀ od u, o ≠ .frz od u) → F' a = some o) : Rp K F' rho' d v := by
  cases d with
  | tup xs =>
    cases r with
    | tup h1 r1 => exact .tup (e _ _ h1 fun _ _ c => nomatch c) (r1.atoms h)
  | _ => exact r.atom h
theorem Rps.flatsA : ∀ {ds : List D} {vs : List V}, Rps K F rho ds vs → ds.all flA = true → (∀ a o, F a = some o → (∀ od u, o ≠ .frz od u) → F' a = some o) → Rps K F' rho' ds vs
  | _, _, .nil, _, _ => .nil
  | _, _, .cons h r, q, e => by
    rw [List.all_cons, Bool.and_eq_true] at q
    exact .cons (h.flatA q.1 e) (Rps.flatsA r q.2 e)
theorem Rp.flat {d : D} {v : V} (r : Rp K F rho d v) (h : flD d = true) (e : ∀ a o, F a = some o → (∀ od u, o ≠ .frz od u) → F' a = some o) : Rp K F' rho' d v := by
  cases d with
  | tup xs =>
    cases r with
    | tup h1 r1 => exact .tup (e _ _ h1 fun _ _ c => nomatch c) (r1.atoms h)
  | lst xs =>
    cases r with
    | lst h1 r1 => exact .lst (e _ _ h1 fun _ _ c => nomatch c) (r1.flatsA h e)
  | _ => exact r.atom h
theorem Rps.flats : ∀ {ds : List D} {vs : List V}, Rps K F rho ds vs → ds.all flD = true → (∀ a o, F a = some o → (∀ od u, o ≠ .frz od u) → F' a = some o) → Rps K F' rho' ds vs
  | _, _, .nil, _, _ => .nil
  | _, _, .cons h r, q, e => by
    rw [List.all_cons, Bool.and_eq_true] at q
    exact .cons (h.flat q.1 e) (Rps.flats r q.2 e)
/-- what is known, but for one place -/
def cutF (F : Hp) (a : Addr) : Hp := fun x => if x = a then none else F x
theorem cutF_eq {a : Addr} : cutF F a a = none := if_pos rfl
theorem cutF_ne {a x : Addr} (h : x ≠ a) : cutF F a x = F x := if_neg h
theorem cutF_some {a x : Addr} {o : HO} (h : cutF F a x = some o) : x ≠ a ∧ F x = some o := by
  by_cases c : x = a
  · subst c
    rw [cutF_eq] at h
    cases h
  · rw [cutF_ne c] at h
    exact ⟨c, h⟩
theorem Same.cut {a : Addr} (s : Same F F') (h : F a = none) : Same F (cutF F' a) := fun x o e => by
  rw [cutF_ne (ne_of_none e h)]
  exact s x o e
end
section
variable {K : Kx} {B : Bs} {F F3 F6 : Hp} {rho : List Addr} {om : Nat → Option Addr} {z : Z} {σ : L2.St} {H H6 : Hp} {a : Addr} {n : Nat}
/-- the base while the dict is lent -/
def lkB (K : Kx) (H : Hp) (F : Hp) : Bs := ⟨H, F, [], fun a => ∃ p ∈ K.tb.t, p.1 = a⟩
theorem Rl.lent {om3 : Nat → Option Addr} {z3 : Z} (R : Rl K B F rho om3 z3 σ H) {kvs : List (List L2.Key × D)} (h1 : σ[n]? = some (some (.ref a))) (r : ∀ rho', Rp K F rho' (.dt kvs) (.ref a)) :
    Rl K (lkB K H F) F [] (fun _ => none) ⟨(List.replicate z3.s.length Sl.no).set n (.val (.dt kvs)), []⟩ σ H := by
  have nn : ∀ (m : Nat) (b : Addr), ¬ ([] : List Addr)[m]? = some b := fun m b e => by simp at e
  have n0 : ∀ (i : Nat) (b : Addr), ¬ (fun _ : Nat => (none : Option Addr)) i = some b := fun i b e => nomatch e
  refine ⟨⟨R.rh.fro, rfl, fun m d b _ e => absurd e (nn m b), fun i j b e => absurd e (nn i b), fun m b e => absurd e (nn m b), R.rh.tb, fun p hp m => nn m _⟩, by simp only [List.length_set, List.length_replicate]; exact R.len, fun i x e => ?_, fun i j b e => absurd e (n0 i b), fun i m b _ => nn m b, fun i b e => absurd e (n0 i b), fun i b e => absurd e (n0 i b), fun _ _ e _ => e, fun _ _ e => e, List.prefix_refl _, fun _ _ _ _ e _ => e, fun m b e => absurd e (nn m b), fun i b e => absurd e (n0 i b), fun i b e => absurd e (n0 i b), fun p hp i => n0 i _, fun p hp => ⟨p, hp, rfl⟩⟩
  by_cases c : i = n
  · subst c
    have hl : i < z3.s.length := by rw [R.len]; exact (List.getElem?_eq_some_iff.mp h1).1
    have e : ((List.replicate z3.s.length Sl.no).set i (.val (.dt kvs)))[i]? = some x := e
    rw [List.getElem?_set_self (by simpa using hl)] at e
    cases e
    exact ⟨_, h1, r []⟩
  · have e : ((List.replicate z3.s.length Sl.no).set n (.val (.dt kvs)))[i]? = some x := e
    rw [List.getElem?_set_ne (Ne.symm c)] at e
    obtain ⟨_, e⟩ := List.getElem?_eq_some_iff.mp e
    rw [List.getElem_replicate] at e
    subst e
    trivial
/-- the slot has its dict again -/
theorem Rl.again {om6 : Nat → Option Addr} {z6 : Z} {u : HO} {od : Obj} (R : Rl K B F rho om z σ H) (hn : om n = some a) (hu : H a = some u)
    (s3 : Same F F3) (f3 : F3 a = some (.frz od u)) (R3 : Rl K B F3 rho (omSet om n none) ⟨z.s.set n .no, z.h⟩ σ (upd H a (.frz od u)))
    (R6 : Rl K (lkB K (upd H a (.frz od u)) F3) F6 [] om6 z6 σ H6) : Rl K B (cutF F6 a) rho om z σ (upd H6 a u) := by
  have fa : F a = none := R.off n a hn
  have s36 : Same F3 F6 := R6.exf
  have f6 : F6 a = some (.frz od u) := s36 _ _ f3
  have sF : Same F (cutF F6 a) := Same.cut (s3.trans s36) fa
  have keep : ∀ b o, b ≠ a → H b = some o → (∀ p ∈ K.tb.t, ¬ p.1 = b) → H6 b = some o := fun b o c e t => R6.frm b o (by show upd H a _ b = _; rw [upd_ne c]; exact e) fun ⟨p, hp, q⟩ => t p hp q
  have lose : ∀ b o, b ≠ a → H b = some o → NT o → F3 b = none → (∀ p ∈ K.tb.t, ¬ p.1 = b) → cutF F6 a b = none := fun b o c e nt f t => by
    rw [cutF_ne c]
    exact R6.nF b o (by show upd H a _ b = _; rw [upd_ne c]; exact e) nt f fun ⟨p, hp, q⟩ => t p hp q
  have nr : ∀ (m : Nat) b, rho[m]? = some b → b ≠ a := fun m b e c => R.orr n m a hn (by rw [← c]; exact e)
  have no : ∀ (i : Nat) b, ¬ i = n → om i = some b → b ≠ a := fun i b c e c2 => c (R.oj i n a (by rw [← c2]; exact e) hn)
  have tr : ∀ (m : Nat) b, rho[m]? = some b → ∀ p ∈ K.tb.t, ¬ p.1 = b := fun m b e p hp c => R.rh.tr p hp m (by rw [c]; exact e)
  have tn : ∀ p ∈ K.tb.t, p.1 ≠ a := fun p hp c => R.to p hp n (by rw [c]; exact hn)
  have hr : ∀ (m : Nat) b, rho[m]? = some b → upd H6 a u b = H b := fun m b e => by
    obtain ⟨o, ho, _⟩ := R.rh.there (z := z) e
    rw [upd_ne (nr m b e), ho]
    exact keep b o (nr m b e) ho (tr m b e)
  have ho : ∀ (i : Nat) b, om i = some b → upd H6 a u b = H b := fun i b e => by
    by_cases c : i = n
    · subst c
      rw [hn] at e
      cases e
      rw [upd_same, hu]
    · obtain ⟨o, h1, _⟩ := R.oth i b e
      rw [upd_ne (no i b c e), h1]
      exact keep b o (no i b c e) h1 fun p hp q => R.to p hp i (by rw [q]; exact e)
  refine ⟨⟨fun x o e => ?_, R.rh.len, fun m d b e1 e2 => (R.rh.obs m d b e1 e2).mono sF (List.prefix_refl _) (hr m b e2), R.rh.inj, fun m b e => ?_, ⟨fun p hp => ?_, R.rh.tb.un, fun p hp => ?_⟩, R.rh.tr⟩, R.len, fun i x e => (R.sl i x e).mono sF (List.prefix_refl _) (fun b e => ho i b e) rfl, R.oj, R.orr, fun i b e => ?_, fun i b e => ?_, fun b o e m => ?_, R.exf.trans sF, R.exr, fun b o e nt f m => ?_, R.nr, R.no, R.ow, R.to, R.mt⟩
  · obtain ⟨c, e⟩ := cutF_some e
    rw [upd_ne c]
    exact R6.rh.fro _ _ e
  · obtain ⟨o, h1, nt⟩ := R.rh.there (z := z) e
    exact lose b o (nr m b e) h1 nt (R3.rh.nf m b e) (tr m b e)
  · obtain ⟨ps, h1, h2, h3⟩ := R6.rh.tb.tb p hp
    refine ⟨ps, by rw [upd_ne (tn p hp)]; exact h1, h2, fun pos cv hc => ?_⟩
    obtain ⟨c, e1, e2⟩ := h3 pos cv hc
    refine ⟨c, e1, ?_⟩
    have : c ≠ a := fun q => by
      rw [q, f6] at e2
      cases e2
    rw [cutF_ne this]
    exact e2
  · rw [cutF_ne (tn p hp)]
    exact R6.rh.tb.nf p hp
  · by_cases c : i = n
    · subst c
      rw [hn] at e
      cases e
      exact cutF_eq
    · obtain ⟨o, h1, nt⟩ := R.oth i b e
      exact lose b o (no i b c e) h1 nt (R3.off i b (by rw [omSet_ne c]; exact e)) fun p hp q => R.to p hp i (by rw [q]; exact e)
  · rw [ho i b e]
    exact R.oth i b e
  · have ba : b ≠ a := fun c => by
      rcases R.no n a hn with h | h
      · exact m (by rw [c]; exact h)
      · rw [c, h] at e
        cases e
    rw [upd_ne ba]
    exact keep b o ba (R.frm b o e m) fun p hp q => m (by rw [← q]; exact R.mt p hp)
  · have ba : b ≠ a := fun c => by
      rcases R.no n a hn with h | h
      · exact m (by rw [c]; exact h)
      · rw [c, h] at e
        cases e
    exact lose b o ba (R.frm b o e m) nt (R3.nF b o e nt f m) fun p hp q => m (by rw [← q]; exact R.mt p hp)
end
section
variable {X : Cx} {Tb : Tbs}
theorem me_lk {e : Expr} {m : M D} (n : Nat) (h : PE X e (Te (kx X Tb) m)) : PE X e (Te (kx X Tb) (E.lk n m)) := by
  refine pe_imp (pe_lock h) fun σ H Q ⟨B, F, rho, om, z, R, d, z', e, k⟩ => ?_
  unfold E.lk at e
  cases hs : z.s[n]? with
  | none =>
    rw [hs] at e
    cases e
  | some x =>
    cases x with
    | no =>
      rw [hs] at e
      cases e
    | val x =>
      rw [hs] at e
      cases e
    | own x =>
      rw [hs] at e
      cases x with
      | dt kvs =>
        dsimp only at e
        cases hm : m ⟨(List.replicate z.s.length Sl.no).set n (.val (.dt kvs)), []⟩ with
        | none =>
          rw [hm] at e
          cases e
        | some y =>
          obtain ⟨d1, z1⟩ := y
          rw [hm] at e
          dsimp only at e
          by_cases hd : ((kvs.map Prod.snd).all flD && (flD d1 && z1.h.isEmpty)) = true
          · rw [if_pos hd] at e
            cases e
            rw [Bool.and_eq_true, Bool.and_eq_true] at hd
            obtain ⟨hk, hd⟩ := hd
            obtain ⟨a, h1, h2, es, h3, h4, h5⟩ := R.sl n _ hs
            refine ⟨a, .dT es, h3, trivial, fun od => ?_⟩
            have f0 := R.freshOwn h1
            obtain ⟨F3, R3, s3, q3⟩ := (R.forget n).lock (u := .dT es) f0 od
            have R4 := R3.lent (n := n) (kvs := kvs) h2
            have R4 : Rl (kx X Tb) (lkB (kx X Tb) _ F3) F3 [] (fun _ => none) ⟨(List.replicate (z.s.set n Sl.no).length Sl.no).set n (.val (.dt kvs)), []⟩ σ (upd H a (.frz od (.dT es))) := R4 fun rho' => .dt q3 h4 (h5.flats hk fun b o eb _ => s3 _ _ eb)
            rw [List.length_set] at R4
            refine ⟨_, F3, [], _, _, R4, _, z1, hm, fun F6 rho6 H6 v s6 p6 R6 r6 => ?_⟩
            have e1 : z1.h = [] := List.isEmpty_iff.mp hd.2
            have e2 : rho6 = [] := by
              have := R6.rh.len
              rw [e1] at this
              exact List.length_eq_zero_iff.mp this.symm
            subst e2
            refine ⟨R6.rh.fro _ _ (s6 _ _ q3), ?_⟩
            have R7 := R.again (u := .dT es) (od := od) h1 h3 s3 q3 R3 R6
            have sF : Same F (cutF F6 a) := Same.cut (s3.trans s6) (R.off n a h1)
            refine k (cutF F6 a) rho _ v sF (List.prefix_refl _) R7 (.pure ?_)
            have r6 : Rp (kx X Tb) F6 [] d v := by
              cases r6 with
              | pure r => exact r
              | own _ => cases hd.1
            refine r6.flat hd.1 fun b o eb hno => ?_
            rw [cutF_ne fun c => ?_]
            · exact eb
            · rw [c, s6 _ _ q3] at eb
              cases eb
              exact hno _ _ rfl
          · rw [if_neg hd] at e
            cases e
      | _ => cases e
end
theorem ev_lkE {s : List Sl} {h : List D} {n : Nat} {kvs : List (List L2.Key × D)} {m : M D} {d : D} {z' : Z} (hi : s[n]? = some (.own (.dt kvs))) (hm : m ⟨(List.replicate s.length Sl.no).set n (.val (.dt kvs)), []⟩ = some (d, z')) (hz : z'.h = []) (hk : (kvs.map Prod.snd).all flD = true) (hd : flD d = true) : E.lk n m ⟨s, h⟩ = some (d, ⟨s, h⟩) := by
  unfold E.lk
  show (match s[n]? with | some (.own (.dt kvs)) => _ | _ => none) = _
  rw [hi]
  dsimp only
  rw [hm]
  dsimp only
  rw [hk, hd, hz]
  rfl
theorem ev_lkV {s : List Sl} {n : Nat} {kvs : List (List L2.Key × D)} (hi : s[n]? = some (.own (.dt kvs))) : E.var n ⟨(List.replicate s.length Sl.no).set n (.val (.dt kvs)), []⟩ = some (.dt kvs, ⟨(List.replicate s.length Sl.no).set n (.val (.dt kvs)), []⟩) := by
  have hl : n < s.length := (List.getElem?_eq_some_iff.mp hi).1
  have e : ((List.replicate s.length Sl.no).set n (.val (.dt kvs)))[n]? = some (.val (.dt kvs)) := List.getElem?_set_self (by simpa using hl)
  unfold E.var
  dsimp only
  rw [e]
end Mi
set_option Elab.async false
set_option linter.all false
set_option maxRecDepth 100000
set_option maxHeartbeats 1000000
namespace Mi
open PySem PySem.Spec PyProof.Rows L2
end Mi
set_option Elab.async false
set_option linter.all false
set_option maxRecDepth 100000
set_option maxHeartbeats 1000000
namespace Mi
open PySem PySem.Spec PyProof.Rows L2
end Mi
set_option Elab.async false
set_option linter.all false
set_option maxRecDepth 100000
set_option maxHeartbeats 1000000
namespace PySem
open Sem (wp)
end PySem
namespace Mi
open PySem PySem.Spec PyProof.Rows L2
theorem ev_lkSort {κ β : Type} {s : List Sl} {h : List D} {n : Nat} {kvs : List (κ × β)} {ys : List κ} (Y : TEnc κ) (e : β → D) (ek : κ → D) (hi : s[n]? = some (.own (eT Y e kvs))) (hm : N.sortedD (E.var n) ⟨(List.replicate s.length Sl.no).set n (.val (eT Y e kvs)), []⟩ = some (ys.map ek, ⟨(List.replicate s.length Sl.no).set n (.val (eT Y e kvs)), []⟩)) (hk : ∀ x, flD (e x) = true) (hd : ∀ x, flA (ek x) = true) : E.lk n (E.frz (N.sortedD (E.var n))) ⟨s, h⟩ = some (.lst (ys.map ek), ⟨s, h⟩) :=
  ev_lkE hi (ev_frz hm) rfl (by
    rw [List.map_map, List.all_map, List.all_eq_true]
    intro x _
    exact hk x.2) (by
    show (ys.map ek).all flA = true
    rw [List.all_map, List.all_eq_true]
    intro x _
    exact hd x)
end Mi
set_option Elab.async false
set_option linter.all false
set_option maxRecDepth 100000
set_option maxHeartbeats 1000000
namespace Mi
open PySem PySem.W PySem.Spec PyProof.Rows L2
end Mi
set_option Elab.async false
set_option linter.all false
set_option maxRecDepth 100000
set_option maxHeartbeats 1000000
namespace Mi
open PySem PySem.Spec PyProof.Rows L2
end Mi
set_option Elab.async false
set_option linter.all false
set_option maxRecDepth 100000
set_option maxHeartbeats 1000000
namespace Mi
open PySem PySem.W PySem.Spec PyProof.Rows L2
end Mi
set_option Elab.async false
set_option linter.all false
set_option maxRecDepth 100000
set_option maxHeartbeats 1000000
namespace Mi
open PySem PySem.Spec PyProof.Rows L2
end Mi
set_option Elab.async false
set_option linter.all false
set_option maxRecDepth 100000
set_option maxHeartbeats 1000000
namespace Mi
open PySem PySem.Spec PyProof.Rows L2
def F.reprO : List D → Z → Option D
  | [.non], _ => some (.str "None")
  | xs, z => F.repr xs z
section
variable {X : Cx}
theorem call_rprO (hu : X.A.units + 64 < cLine) (gA : X.A.guards = some []) : CallR X (.builtin "repr") (fun vs H Q => (vs = [V.non] ∧ Q (.str "None") H) ∨ rRpr X.K vs H Q) := by
  intro pins s σ H vs us Q I rr hyp
  rcases hyp with ⟨rfl, q⟩ | hyp
  · obtain ⟨u, rfl, ru⟩ := vals1 rr
    cases ru
    exact PySem.P.repr_of_none ⟨.str "None", H, I.tok _, ⟨_, rfl⟩, q⟩
  · exact call_rpr hu gA pins s σ H vs us Q I rr hyp
theorem f_reprO (hu : X.A.units + 64 < cLine) (gA : X.A.guards = some []) : CallM X (.builtin "repr") F.reprO := by
  refine ⟨_, call_rprO hu gA, ?_⟩
  intro Tb B F rho om z σ H xs vs d R r e Q k
  unfold Mi.F.reprO at e
  split at e
  · cases e
    obtain ⟨v, rfl, rv⟩ := rvs1 r
    cases rv with
    | pure rv =>
      cases rv
      exact .inl ⟨rfl, k F H _ (Same.refl F) R (.pure (.str _))⟩
  · right
    unfold Mi.F.repr at e
    split at e
    · obtain ⟨v, rfl, rv⟩ := rvs1 r
      split at e
      · rename_i p hp
        split at e
        · rename_i c
          cases e
          exact ⟨v, p, rfl, snap_ok R rv hp, c.1, c.2, k F H _ (Same.refl F) R (.pure (.str _))⟩
        · cases e
      · cases e
    · cases e
end
namespace Pl
def reprD : D → Option Str
  | .non => some "None"
  | d => match O.toP d with
    | some p => if rprOk p = true ∧ p.shown.length ≤ sizeLine then some p.shown else none
    | none => none
end Pl
theorem ev_reprO {a : M D} {d : D} {z z1 : Z} {r : Str} (h1 : a z = some (d, z1)) (hv : isVal d = true) (hr : Pl.reprD d = some r) : E.blt F.reprO [a] z = some (eS r, z1) := by
  refine ev_blt1 h1 ?_
  unfold Pl.reprD at hr
  split at hr
  · cases hr
    rfl
  · rename_i hne
    have e : F.reprO [d] z1 = F.repr [d] z1 := by
      unfold F.reprO
      split
      · rename_i h
        injection h with h
        exact absurd h hne
      · rfl
    rw [e]
    unfold F.repr
    dsimp only
    rw [snap_val hv]
    split at hr
    · rename_i p hp
      try rw [hp]
      try dsimp only
      split at hr
      · rename_i c
        rw [if_pos c]
        cases hr
        rfl
      · cases hr
    · cases hr
theorem BlE.h4 {α β γ δ : Type} {n : Nat} {a : α → D} {b : β → D} {c : γ → D} {d : δ → D} (ha : BlE n a) (hb : BlE n b) (hc : BlE n c) (hd : BlE n d) : BlE (n + 1) (Mi.h4 a b c d) := fun x m => by
  show List.all [a x.1, b x.2.1, c x.2.2.1, d x.2.2.2] (blw n m) = true
  simp only [List.all_cons, List.all_nil, ha x.1 m, hb x.2.1 m, hc x.2.2.1 m, hd x.2.2.2 m, Bool.and_self]
end Mi
set_option Elab.async false
set_option linter.all false
set_option maxRecDepth 100000
set_option maxHeartbeats 1000000
namespace Mi
open PySem PySem.Spec PyProof.Rows L2
mutual
def KAt (H : Hp) : NestedKey → V → Prop
  | .num i, v => v = .int i
  | .tup ks, v => ∃ b vs, v = .ref b ∧ H b = some (.tup vs) ∧ KAts H ks vs
  | .none, _ => False
  | .text _, _ => False
def KAts (H : Hp) : List NestedKey → List V → Prop
  | [], vs => vs = []
  | k :: ks, vs => ∃ v r, vs = v :: r ∧ KAt H k v ∧ KAts H ks r
end
mutual
theorem KAt.is {P : Program} {w : World} {H : Hp} {h : Heap} (ok : HOk P w H h) : ∀ (k : NestedKey) {v : V} {u : Value}, KAt H k v → RelV v u → NestedIs h k u
  | .num i, v, u, e, r => by
    rw [KAt] at e
    subst e
    obtain ⟨t, rfl⟩ := r
    exact .int i t
  | .tup ks, v, u, e, r => by
    rw [KAt] at e
    obtain ⟨b, vs, rfl, hb, q⟩ := e
    cases (show u = Value.ref b from r)
    obtain ⟨_, its, rr, o, h1, h2, n, h3⟩ := (show ObjOk P w H h b (.tup vs) from ok b _ hb)
    exact .tup h1 h2 h3 (by simpa using KAts.is ok ks q rr)
  | .none, v, u, e, r => by rw [KAt] at e; exact e.elim
  | .text _, v, u, e, r => by rw [KAt] at e; exact e.elim
theorem KAts.is {P : Program} {w : World} {H : Hp} {h : Heap} (ok : HOk P w H h) : ∀ (ks : List NestedKey) {vs : List V} {us : List Value}, KAts H ks vs → Vals vs us → NestedAll h ks us
  | [], vs, us, e, r => by
    rw [KAts] at e
    subst e
    cases r
    exact .nil
  | k :: ks, vs, us, e, r => by
    rw [KAts] at e
    obtain ⟨v, r2, rfl, h1, h2⟩ := e
    cases r with
    | cons a b => exact .cons (KAt.is ok k h1 a) (KAts.is ok ks h2 b)
end
mutual
theorem KAt.mono {H H' : Hp} (hk : ∀ b ys, H b = some (.tup ys) → H' b = some (.tup ys)) : ∀ (k : NestedKey) {v : V}, KAt H k v → KAt H' k v
  | .num i, v, e => by
    rw [KAt] at e ⊢
    exact e
  | .tup ks, v, e => by
    rw [KAt] at e ⊢
    obtain ⟨b, vs, rfl, hb, q⟩ := e
    exact ⟨b, vs, rfl, hk _ _ hb, KAts.mono hk ks q⟩
  | .none, v, e => by rw [KAt] at e; exact e.elim
  | .text _, v, e => by rw [KAt] at e; exact e.elim
theorem KAts.mono {H H' : Hp} (hk : ∀ b ys, H b = some (.tup ys) → H' b = some (.tup ys)) : ∀ (ks : List NestedKey) {vs : List V}, KAts H ks vs → KAts H' ks vs
  | [], vs, e => by
    rw [KAts] at e ⊢
    exact e
  | k :: ks, vs, e => by
    rw [KAts] at e ⊢
    obtain ⟨v, r2, rfl, h1, h2⟩ := e
    exact ⟨v, r2, rfl, KAt.mono hk k h1, KAts.mono hk ks h2⟩
end
mutual
theorem KAt.hash {w : World} {H : Hp} : ∀ (k : NestedKey) {v : V}, KAt H k v → k.hash w = hashI k
  | .num i, v, e => rfl
  | .tup ks, v, e => by
    rw [KAt] at e
    obtain ⟨b, vs, rfl, hb, q⟩ := e
    rw [NestedKey.hash, hashI, KAts.hash ks q]
  | .none, v, e => by rw [KAt] at e; exact e.elim
  | .text _, v, e => by rw [KAt] at e; exact e.elim
theorem KAts.hash {w : World} {H : Hp} : ∀ (ks : List NestedKey) {vs : List V}, KAts H ks vs → NestedKey.hashes w ks = hashIs ks
  | [], vs, e => rfl
  | k :: ks, vs, e => by
    rw [KAts] at e
    obtain ⟨v, r2, rfl, h1, h2⟩ := e
    rw [NestedKey.hashes, hashIs, KAt.hash k h1, KAts.hash ks h2]
end
section
variable {K : Kx} {F : Hp} {rho : List Addr}
mutual
theorem nkD_ok : ∀ {d : D} {v : V} {k : NestedKey}, Rp K F rho d v → nkD d = some k → KAt F k v
  | .int i, v, k, r, e => by
    rw [nkD] at e
    cases e
    cases r
    rfl
  | .tup ds, v, k, r, e => by
    rw [nkD] at e
    cases r with
    | @tup a xs _ h q =>
      cases hk : nkDs ds with
      | none => rw [hk] at e; cases e
      | some ks =>
        rw [hk] at e
        cases e
        rw [KAt]
        exact ⟨a, xs, rfl, h, nkDs_ok q hk⟩
  | .non, v, k, r, e => by simp [nkD] at e
  | .bl _, v, k, r, e => by simp [nkD] at e
  | .str _, v, k, r, e => by simp [nkD] at e
  | .kt _, v, k, r, e => by simp [nkD] at e
  | .lst _, v, k, r, e => by simp [nkD] at e
  | .scr _, v, k, r, e => by simp [nkD] at e
  | .ref _, v, k, r, e => by simp [nkD] at e
  | .own _, v, k, r, e => by simp [nkD] at e
  | .dk _, v, k, r, e => by simp [nkD] at e
  | .dt _, v, k, r, e => by simp [nkD] at e
  | .ins _ _, v, k, r, e => by simp [nkD] at e
theorem nkDs_ok : ∀ {ds : List D} {vs : List V} {ks : List NestedKey}, Rps K F rho ds vs → nkDs ds = some ks → KAts F ks vs
  | [], vs, ks, r, e => by
    rw [nkDs] at e
    cases e
    cases r
    rfl
  | d :: ds, vs, ks, r, e => by
    rw [nkDs] at e
    cases r with
    | cons a b =>
      split at e
      · rename_i k0 ks0 h1 h2
        cases e
        rw [KAts]
        exact ⟨_, _, rfl, nkD_ok a h1, nkDs_ok b h2⟩
      · cases e
end
end
def nPut (qs : List (NestedKey × Addr)) (k : NestedKey) (b : Addr) : List (NestedKey × Addr) := if k ∈ qs.map Prod.fst then qs else qs ++ [(k, b)]
abbrev NkKs (H : Hp) (qs : List (NestedKey × Addr)) : Prop := ∀ q ∈ qs, KAt H q.1 (.ref q.2) ∧ q.1.depth ≤ 8
abbrev nkXs (qs : List (NestedKey × Addr)) : List (NestedKey × Addr × Value) := qs.map fun q => (q.1, q.2, Value.bool true)
section
variable {X : Cx} {pins : List (Addr × Obj)} {σ : L2.St} {H : Hp} {s : Shared} {a b : Addr} {qs : List (NestedKey × Addr)} {k : NestedKey} {A : Around} {E : Value → Shared → Prop}
theorem nk_dict (I : Inv X pins σ H s) (e : H a = some (.ext (NkO a qs))) (hq : NkKs H qs) : qs.length ≤ sizeLine ∧ (a == sysModules) = false ∧ s.heap.DictOfH (nestedKind X.prog X.w) a (nkXs qs) := by
  obtain ⟨⟨z, y, o, es, ep, h1, h2, h3, h4, h5⟩, _⟩ := (show ObjOk X.prog X.w H s.heap a (.ext (NkO a qs)) from I.hok a _ e)
  refine ⟨z, y, o, es, ep, h1, h2, h3, ?_, ?_, ?_⟩
  · rw [h4, List.map_map]
    refine List.map_congr_left fun q hm => ?_
    show (⟨hashI q.1, .ref q.2, .bool true⟩ : DictEntry) = ⟨q.1.hash X.w, .ref q.2, .bool true⟩
    rw [KAt.hash (w := X.w) q.1 (hq q hm).1]
  · intro x hx
    obtain ⟨q, hm, rfl⟩ := List.mem_map.mp hx
    exact ⟨KAt.is I.hok q.1 (hq q hm).1 rfl, (hq q hm).2⟩
  · rw [List.map_map]
    exact h5
theorem nk_at : ∀ (qs : List (NestedKey × Addr)), (atKey (nkXs qs) k).isSome = decide (k ∈ qs.map Prod.fst)
  | [] => rfl
  | q :: qs => by
    have ih := nk_at qs
    unfold atKey at ih ⊢
    rw [show nkXs (q :: qs) = (q.1, q.2, Value.bool true) :: nkXs qs from rfl, List.find?_cons]
    by_cases c : q.1 = k
    · have e1 : decide ((q.1, q.2, Value.bool true).1 = k) = true := decide_eq_true c
      rw [e1]
      have : k ∈ (q :: qs).map Prod.fst := List.mem_map.mpr ⟨q, List.mem_cons_self, c⟩
      rw [decide_eq_true this]
      rfl
    · have e1 : decide ((q.1, q.2, Value.bool true).1 = k) = false := decide_eq_false c
      rw [e1]
      refine ih.trans ?_
      refine decide_eq_decide.mpr ?_
      rw [List.map_cons, List.mem_cons]
      exact ⟨.inr, fun h => h.resolve_left fun e => c e.symm⟩
theorem nk_put (qs : List (NestedKey × Addr)) (hn : (qs.map Prod.fst).Nodup) : storedH (nkXs qs) k b (.bool true) = nkXs (nPut qs k b) := by
  unfold storedH nPut
  rw [nk_at qs]
  by_cases c : k ∈ qs.map Prod.fst
  · rw [decide_eq_true c, if_pos rfl, if_pos c, List.map_map]
    refine List.map_congr_left fun q hm => ?_
    show putAt k (.bool true) (q.1, q.2, Value.bool true) = _
    unfold putAt
    split <;> rfl
  · rw [decide_eq_false c, if_neg Bool.false_ne_true, if_neg c]
    exact (List.map_append (f := fun q : NestedKey × Addr => (q.1, q.2, Value.bool true)) (l₁ := qs) (l₂ := [(k, b)])).symm
theorem nk_stay {h1 h2 : Heap} (x : NkO a qs h1) (k : ∀ o, h1.get? a = some o → h2.get? a = some o) : NkO a qs h2 := by
  obtain ⟨z, y, o, es, ep, e1, r⟩ := x
  exact ⟨z, y, o, es, ep, k o e1, r⟩
theorem nk_in {Q : Value → Shared → Prop} (hu : A.units + 9 < cLine) (I : Inv X pins σ H s) (e : H a = some (.ext (NkO a qs))) (hq : NkKs H qs) (hk : KAt H k (.ref b)) (hd : k.depth ≤ 8) (h : ∀ s', Inv X pins σ H s' → Q (.bool (decide (k ∈ qs.map Prod.fst))) s') :
    wpAny (model X.prog X.w) A (compareOp .In (.ref b) (.ref a)) Q E s := by
  obtain ⟨z, y, dd⟩ := nk_dict I e hq
  refine wpAny_in_heap (knd := nestedKind X.prog X.w) (k := k) (show A.in1.units + 8 < cLine by rw [Around.in1_units]; omega) ⟨KAt.is I.hok k hk rfl, hd⟩ y dd ?_
  rw [nk_at]
  exact h _ (I.tok _)
theorem nk_notIn {Q : Value → Shared → Prop} (hu : A.units + 9 < cLine) (I : Inv X pins σ H s) (e : H a = some (.ext (NkO a qs))) (hq : NkKs H qs) (hk : KAt H k (.ref b)) (hd : k.depth ≤ 8) (h : ∀ s', Inv X pins σ H s' → Q (.bool (!decide (k ∈ qs.map Prod.fst))) s') :
    wpAny (model X.prog X.w) A (compareOp .NotIn (.ref b) (.ref a)) Q E s := by
  obtain ⟨z, y, dd⟩ := nk_dict I e hq
  refine wpAny_notIn_heap (knd := nestedKind X.prog X.w) (k := k) (show A.in1.units + 8 < cLine by rw [Around.in1_units]; omega) ⟨KAt.is I.hok k hk rfl, hd⟩ y dd ?_
  rw [nk_at]
  exact h _ (I.tok _)
theorem nPut_le : (nPut qs k b).length ≤ qs.length + 1 := by
  unfold nPut
  split
  · omega
  · rw [List.length_append]; exact Nat.le_refl _
theorem nk_ext {P : Program} {w : World} {h' : Heap} {H' : Hp} (n : NkO a qs h') : ObjOk P w H' h' a (.ext (NkO a qs)) := by
  refine ⟨n, ?_, fun h1 h2 x k => nk_stay x k⟩
  obtain ⟨_, _, o, _, _, e, _⟩ := n
  exact ⟨o, e⟩
theorem nk_set {Q : Unit → Shared → Prop} (hu : A.units + 9 < cLine) (I : Inv X pins σ H s) (e : H a = some (.ext (NkO a qs))) (hq : NkKs H qs) (hk : KAt H k (.ref b)) (hd : k.depth ≤ 8) (hl : qs.length < sizeLine) (h : ∀ s', Inv X pins σ (upd H a (.ext (NkO a (nPut qs k b)))) s' → Q () s') :
    wpAny (model X.prog X.w) A (setItem (.ref a) (.ref b) (.bool true)) Q E s := by
  obtain ⟨z, y, dd⟩ := nk_dict I e hq
  have hn : (qs.map Prod.fst).Nodup := by
    obtain ⟨_, _, _, _, _, _, _, _, n⟩ := dd
    rw [List.map_map] at n
    exact n
  refine wpAny_setItem_heap (knd := nestedKind X.prog X.w) (k := k) (hsz := by rw [List.length_map]; exact z) (show A.in1.units + 8 < cLine by rw [Around.in1_units]; omega) ⟨KAt.is I.hok k hk rfl, hd⟩ dd fun h' dd' hs => h _ ?_
  rw [nk_put qs hn] at dd'
  obtain ⟨q, es, ep, h1, h2, h3, h4, _, h5⟩ := dd'
  refine d_write I (by rw [e]; exact True.intro) hs ⟨q, h1⟩ (nk_ext ⟨Nat.le_trans nPut_le hl, y, q, es, ep, h1, h2, h3, ?_, by rw [List.map_map] at h5; exact h5⟩)
  rw [h4, List.map_map]
  refine List.map_congr_left fun p hm => ?_
  show (⟨p.1.hash X.w, .ref p.2, .bool true⟩ : DictEntry) = ⟨hashI p.1, .ref p.2, .bool true⟩
  have hp : KAt H p.1 (.ref p.2) := by
    unfold nPut at hm
    split at hm
    · exact (hq p hm).1
    · rcases List.mem_append.mp hm with hm | hm
      · exact (hq p hm).1
      · cases List.mem_singleton.mp hm
        exact hk
  rw [KAt.hash (w := X.w) p.1 hp]
theorem nk_empty {P : Program} {w : World} {H : Hp} (h : Heap) (hb : sysModules < h.objs.size) : ObjOk P w H (h.push { cls := .type "dict", data := .dict #[] }) h.objs.size (.ext (NkO h.objs.size [])) :=
  nk_ext ⟨Nat.zero_le _, beq_eq_false_iff_ne.mpr (Ne.symm (Nat.ne_of_lt hb)), _, #[], 0, Heap.get?_push_size _ rfl, ⟨rfl, rfl, rfl⟩, rfl, rfl, List.nodup_nil⟩
end
def tNNew : TE := fun _ H Q => ∀ p, H p = none → Q (.ref p) (upd H p (.ext (NkO p [])))
def tNIn (neg : Bool) (ty td : TE) : TE := fun σ H Q => ty σ H fun y H1 => td σ H1 fun x H2 => ∃ a b qs k, x = .ref a ∧ y = .ref b ∧ H2 a = some (.ext (NkO a qs)) ∧ NkKs H2 qs ∧ KAt H2 k (.ref b) ∧ k.depth ≤ 8 ∧ Q (.bl (neg ^^ decide (k ∈ qs.map Prod.fst))) H2
def sNPut (td ty tv : TE) : L2.TS := fun D σ H => tv σ H fun v H1 => td σ H1 fun x H2 => ty σ H2 fun y H3 => ∃ a b qs k, v = .bl true ∧ x = .ref a ∧ y = .ref b ∧ H3 a = some (.ext (NkO a qs)) ∧ NkKs H3 qs ∧ KAt H3 k (.ref b) ∧ k.depth ≤ 8 ∧ qs.length < sizeLine ∧
  D.nx σ (upd H3 a (.ext (NkO a (nPut qs k b))))
section
variable {X : Cx} {o i e value : Expr} {pos pos' tpos : Pos} {td ty tv : TE}
theorem pe_nnew : PE X (.Dict [] [] pos) tNNew := ⟨fun pins s σ H Q I h =>
  wpAny_Dict_empty ⟨.ref s.heap.objs.size, _, I.laid (a := s.heap.objs.size) (o := .ext (NkO s.heap.objs.size [])) (t' := s.toks) (fun _ _ q => Heap.get?_push_of_some _ q) (Nat.le_refl _) (nk_empty s.heap I.big), rfl, h _ (I.hok.fresh (Nat.le_refl _))⟩⟩
theorem pc_nin (hu : X.A.units + 9 < cLine) (hi : PE X i ty) (ho : PE X o td) : PC X .In i o (tNIn false ty td) := by
  refine ⟨fun pins s σ H Q I h => ?_⟩
  refine thn (hi.run pins s σ H _ I h) fun iv s1 ⟨y, H1, I1, ry, q1⟩ => thn (ho.run pins s1 σ H1 _ I1 q1) fun u s2 ⟨x, H2, I2, rx, a, b, qs, k, ex, ey, e, hq, hk, hd, q2⟩ => ?_
  subst ex ey
  obtain rfl : u = Value.ref a := rx
  obtain rfl : iv = Value.ref b := ry
  rw [Bool.false_xor] at q2
  exact nk_in hu I2 e hq hk hd fun s3 I3 => ⟨.bl _, H2, I3, rfl, q2⟩
theorem pc_nnotin (hu : X.A.units + 9 < cLine) (hi : PE X i ty) (ho : PE X o td) : PC X .NotIn i o (tNIn true ty td) := by
  refine ⟨fun pins s σ H Q I h => ?_⟩
  refine thn (hi.run pins s σ H _ I h) fun iv s1 ⟨y, H1, I1, ry, q1⟩ => thn (ho.run pins s1 σ H1 _ I1 q1) fun u s2 ⟨x, H2, I2, rx, a, b, qs, k, ex, ey, e, hq, hk, hd, q2⟩ => ?_
  subst ex ey
  obtain rfl : u = Value.ref a := rx
  obtain rfl : iv = Value.ref b := ry
  rw [Bool.true_xor] at q2
  exact nk_notIn hu I2 e hq hk hd fun s3 I3 => ⟨.bl _, H2, I3, rfl, q2⟩
theorem ps_nput (hu : X.A.units + 9 < cLine) (ho : PE X o td) (hi : PE X i ty) (hv : PE X value tv) (hs : swapsWith value (some (.Subscript o i pos')) pos.line X.env = pure false) :
    PS X (.Assign [.Subscript o i pos'] value pos) (sNPut td ty tv) := by
  refine ⟨fun pins s σ H D I h => ?_⟩
  refine wpAny_Assign_Subscript (thn (hv.run pins s σ H _ I h) fun r s1 ⟨v, H1, I1, rv, q1⟩ => thn (ho.run pins s1 σ H1 _ I1 q1) fun u s2 ⟨x, H2, I2, rx, q2⟩ => thn (hi.run pins s2 σ H2 _ I2 q2) fun iv s3 ⟨y, H3, I3, ry, a, b, qs, k, ev, ex, ey, e, hq, hk, hd, hl, q3⟩ => ?_) hs
  subst ev ex ey
  obtain rfl : u = Value.ref a := rx
  obtain rfl : iv = Value.ref b := ry
  obtain rfl : r = Value.bool true := rv
  exact nk_set hu I3 e hq hk hd hl fun s4 I4 => ⟨σ, _, I4, q3⟩
end
def ncont (x : D) (z : Z) : Option (List D) := match x with
  | .own i => match z.s[i]? with
    | some (.own (.kt ks)) => some ks
    | _ => none
  | _ => none
def nkK (d : D) : Option NestedKey := match nkD d with
  | some (.tup ks) => if (NestedKey.tup ks).depth ≤ 8 then some (.tup ks) else none
  | _ => none
def O.nin (x y : D) (z : Z) : Option D := match ncont y z, nkK x with
  | some ks, some k => some (.bl (ks.any fun d => decide (nkD d = some k)))
  | _, _ => none
def O.nnotIn (x y : D) (z : Z) : Option D := match ncont y z, nkK x with
  | some ks, some k => some (.bl (!ks.any fun d => decide (nkD d = some k)))
  | _, _ => none
def nputC (ks : List D) (y : D) : Option (List D) := match nkK y with
  | some k => if ks.length < szl then some (if (ks.any fun d => decide (nkD d = some k)) = true then ks else ks ++ [y]) else none
  | none => none
def C.nput (a k e : M D) : C := bnd e fun v => bnd a fun x => bnd k fun y z => match v, x with
  | .bl true, .own i => match z.s[i]? with
    | some (.own (.kt ks)) => match nputC ks y with
      | some ks' => some (.nx, ⟨z.s.set i (.own (.kt ks')), z.h⟩)
      | none => none
    | _ => none
  | _, _ => none
section
variable {K : Kx} {F : Hp} {rho : List Addr} {H : Hp}
theorem nkK_ok {d : D} {v : V} {k : NestedKey} (r : Rp K F rho d v) (e : nkK d = some k) : ∃ b, v = .ref b ∧ KAt F k (.ref b) ∧ k.depth ≤ 8 ∧ nkD d = some k := by
  unfold nkK at e
  split at e
  · rename_i ks hk
    split at e
    · rename_i c
      cases e
      have h := nkD_ok r hk
      have h2 := h
      rw [KAt] at h2
      obtain ⟨b, vs, rfl, _⟩ := h2
      exact ⟨b, rfl, h, c, hk⟩
    · cases e
  · cases e
theorem nk_any {ks : List D} {qs : List (NestedKey × Addr)} (h : ks.map nkD = qs.map fun q => some q.1) (k : NestedKey) : (ks.any fun d => decide (nkD d = some k)) = decide (k ∈ qs.map Prod.fst) := by
  have e1 : (ks.any fun d => decide (nkD d = some k)) = (ks.map nkD).any fun d => decide (d = some k) := by rw [List.any_map]; rfl
  rw [e1, h]
  clear h e1
  induction qs with
  | nil => rfl
  | cons q qs ih =>
    rw [List.map_cons, List.any_cons, ih, List.map_cons]
    by_cases c : q.1 = k
    · rw [c, decide_eq_true rfl, Bool.true_or]
      exact (decide_eq_true List.mem_cons_self).symm
    · have e2 : decide ((some q.1 : Option NestedKey) = some k) = false := decide_eq_false fun e => c (Option.some.inj e)
      rw [e2, Bool.false_or]
      refine decide_eq_decide.mpr ?_
      rw [List.mem_cons]
      exact ⟨.inr, fun h => h.resolve_left fun e => c e.symm⟩
theorem nk_keys {ks : List D} {qs : List (NestedKey × Addr)} (fro : Same F H) (r : Rps K F rho ks (qs.map fun q => V.ref q.2)) (h : ks.map nkD = qs.map fun q => some q.1) (hd : ∀ q ∈ qs, q.1.depth ≤ 8) : NkKs H qs := by
  induction qs generalizing ks with
  | nil => exact fun q hq => nomatch hq
  | cons q qs ih =>
    cases ks with
    | nil => cases r
    | cons d ks =>
      cases r with
      | cons a b =>
        rw [List.map_cons, List.map_cons] at h
        injection h with h1 h2
        intro p hp
        rcases List.mem_cons.mp hp with rfl | hp
        · exact ⟨KAt.mono (fun c ys e => fro _ _ e) _ (nkD_ok a h1), hd _ List.mem_cons_self⟩
        · exact ih b h2 (fun q hq => hd q (List.mem_cons_of_mem _ hq)) p hp
end
section
variable {K : Kx} {B : Bs} {F : Hp} {rho : List Addr} {om : Nat → Option Addr} {z : Z} {σ : L2.St} {H : Hp}
theorem ncont_ok (R : Rl K B F rho om z σ H) {x : D} {v : V} {ks : List D} (r : Rv K F rho om x v) (e : ncont x z = some ks) :
    ∃ i a qs, x = .own i ∧ om i = some a ∧ z.s[i]? = some (.own (.kt ks)) ∧ v = .ref a ∧ H a = some (.ext (NkO a qs)) ∧ Rps K F rho ks (qs.map fun q => V.ref q.2) ∧ ks.map nkD = qs.map (fun q => some q.1) ∧ ∀ q ∈ qs, q.1.depth ≤ 8 := by
  unfold ncont at e
  cases r with
  | pure r => cases r <;> cases e
  | @own i a h =>
    dsimp only at e
    split at e
    · rename_i ks' hx
      cases e
      obtain ⟨a', h1, _, qs, h2, h3, h4, h5⟩ := R.sl i _ hx
      rw [h] at h1
      cases h1
      exact ⟨i, a, qs, rfl, h, hx, rfl, h2, h3, h4, h5⟩
    · cases e
end
section
variable {X : Cx} {Tb : Tbs}
theorem nin_go {K : Kx} {ma mb : M D} : ∀ σ H Q, Te K (E.op O.nin ma mb) σ H Q → tNIn false (Te K ma) (Te K mb) σ H Q := by
  rintro σ H Q ⟨B, F, rho, om, z, g⟩
  refine (g.bnd.imp fun _ _ H1 _ _ xv _ _ _ _ _ ⟨F2, rho2, z2, x2, eg1, s1, p1, r1, g1⟩ => ?_).tx (R := rV K)
  refine (g1.bnd.imp fun _ _ H2 _ _ yv _ _ _ _ _ ⟨F3, rho3, z3, y3, eg2, s2, p2, r2, g2⟩ => ?_).tx (R := rV K)
  obtain ⟨R, d, z4, e, k⟩ := g2
  dsimp only at e
  split at e
  · cases e
  · rename_i d' hd
    cases e
    unfold O.nin at hd
    split at hd
    · rename_i ks kk hc hk
      cases hd
      obtain ⟨i, a, qs, rfl, _, _, rfl, h1, h2, h3, h4⟩ := ncont_ok R r2 hc
      have r1' : Rv K F3 rho3 om x2 xv := r1.mono s2 p2
      cases r1' with
      | own _ => cases hk
      | pure r1' =>
        obtain ⟨b, rfl, hb, hdp, _⟩ := nkK_ok r1' hk
        refine ⟨a, b, qs, kk, rfl, rfl, h1, nk_keys R.rh.fro h2 h3 h4, KAt.mono (fun c ys e => R.rh.fro _ _ e) _ hb, hdp, ?_⟩
        rw [Bool.false_xor, ← nk_any h3 kk]
        exact k F3 rho3 H2 _ (Same.refl _) (List.prefix_refl _) R (.pure (.bl _))
    · cases hd
theorem nnotIn_go {K : Kx} {ma mb : M D} : ∀ σ H Q, Te K (E.op O.nnotIn ma mb) σ H Q → tNIn true (Te K ma) (Te K mb) σ H Q := by
  rintro σ H Q ⟨B, F, rho, om, z, g⟩
  refine (g.bnd.imp fun _ _ H1 _ _ xv _ _ _ _ _ ⟨F2, rho2, z2, x2, eg1, s1, p1, r1, g1⟩ => ?_).tx (R := rV K)
  refine (g1.bnd.imp fun _ _ H2 _ _ yv _ _ _ _ _ ⟨F3, rho3, z3, y3, eg2, s2, p2, r2, g2⟩ => ?_).tx (R := rV K)
  obtain ⟨R, d, z4, e, k⟩ := g2
  dsimp only at e
  split at e
  · cases e
  · rename_i d' hd
    cases e
    unfold O.nnotIn at hd
    split at hd
    · rename_i ks kk hc hk
      cases hd
      obtain ⟨i, a, qs, rfl, _, _, rfl, h1, h2, h3, h4⟩ := ncont_ok R r2 hc
      have r1' : Rv K F3 rho3 om x2 xv := r1.mono s2 p2
      cases r1' with
      | own _ => cases hk
      | pure r1' =>
        obtain ⟨b, rfl, hb, hdp, _⟩ := nkK_ok r1' hk
        refine ⟨a, b, qs, kk, rfl, rfl, h1, nk_keys R.rh.fro h2 h3 h4, KAt.mono (fun c ys e => R.rh.fro _ _ e) _ hb, hdp, ?_⟩
        rw [Bool.true_xor, ← nk_any h3 kk]
        exact k F3 rho3 H2 _ (Same.refl _) (List.prefix_refl _) R (.pure (.bl _))
    · cases hd
theorem mt_nin {a b : Expr} {pos : Pos} {ma mb : M D} (hu : X.A.units + 64 < cLine) (ha : PE X a (Te (kx X Tb) ma)) (hb : PE X b (Te (kx X Tb) mb)) (hm : behindInMarks .In b = false := by rfl) : PT X (.Compare a [.In] [b] pos) (Tt (kx X Tb) (T.val (E.op O.nin ma mb))) := pt_imp (pt_cmp (pc_nin (by omega) ha hb) hm) (tv_go nin_go)
theorem mt_nnotIn {a b : Expr} {pos : Pos} {ma mb : M D} (hu : X.A.units + 64 < cLine) (ha : PE X a (Te (kx X Tb) ma)) (hb : PE X b (Te (kx X Tb) mb)) (hm : behindInMarks .NotIn b = false := by rfl) : PT X (.Compare a [.NotIn] [b] pos) (Tt (kx X Tb) (T.val (E.op O.nnotIn ma mb))) := pt_imp (pt_cmp (pc_nnotin (by omega) ha hb) hm) (tv_go nnotIn_go)
theorem mn_nnew {pos : Pos} : PE X (.Dict [] [] pos) (Tn (kx X Tb) (ret (.kt []))) := by
  refine pe_imp pe_nnew fun σ H Q ⟨B, F, rho, om, z, R, d, z', e, k⟩ => ?_
  cases e
  intro p hp
  obtain ⟨R2, f2⟩ := R.new (o := .ext (NkO p [])) hp
  exact k F rho _ _ (Same.refl _) (List.prefix_refl _) R2 ⟨p, rfl, f2, [], upd_same, .nil, rfl, fun q hq => nomatch hq⟩
theorem ms_nput {o i e : Expr} {ma mk me : M D} {p pos : Pos} (hu : X.A.units + 64 < cLine) (he : PE X e (Te (kx X Tb) me)) (ha : PE X o (Te (kx X Tb) ma)) (hk : PE X i (Te (kx X Tb) mk)) (hs : swapsWith e (some (.Subscript o i p)) pos.line X.env = pure false := by rfl) :
    PS X (.Assign [.Subscript o i p] e pos) (Ts (kx X Tb) (C.nput ma mk me)) := by
  refine ps_imp (ps_nput (by omega) ha hk he hs) fun D σ H ⟨B, F, rho, om, z, R, f, z', e, k⟩ => ?_
  obtain ⟨d, z1, e1, e2⟩ := bnd_some e
  refine ⟨B, F, rho, om, z, R, d, z1, e1, fun F1 rho1 H1 v s1 p1 R1 r1 => ?_⟩
  obtain ⟨x, z2, e3, e4⟩ := bnd_some e2
  refine ⟨B, F1, rho1, om, z1, R1, x, z2, e3, fun F2 rho2 H2 w s2 p2 R2 r2 => ?_⟩
  obtain ⟨y, z3, e5, e6⟩ := bnd_some e4
  refine ⟨B, F2, rho2, om, z2, R2, y, z3, e5, fun F3 rho3 H3 u s3 p3 R3 r3 => ?_⟩
  try dsimp only at e6
  split at e6
  · rename_i j
    have rd : v = .bl true := by
      cases r1 with
      | pure r1 => cases r1; rfl
    have r2' := r2.mono s3 p3
    cases r2' with
    | pure r2' => cases r2'
    | own h =>
      split at e6
      · rename_i ks hc
        split at e6
        · rename_i ks' hd
          cases e6
          obtain ⟨a', h1, h5, qs, h2, h3, h4, h6⟩ := R3.sl _ _ hc
          rw [h] at h1
          cases h1
          unfold nputC at hd
          split at hd
          · rename_i kk hkk
            split at hd
            · rename_i hz
              cases hd
              cases r3 with
              | own _ => cases hkk
              | pure r3 =>
                obtain ⟨b, rfl, hb, hdp, hkd⟩ := nkK_ok r3 hkk
                have hlen : qs.length = ks.length := by
                  have := congrArg List.length h4
                  simpa using this.symm
                refine ⟨_, b, qs, kk, rd, rfl, rfl, h2, nk_keys R3.rh.fro h3 h4 h6, KAt.mono (fun c ys e => R3.rh.fro _ _ e) _ hb, hdp, by rw [hlen]; exact szl_ok hz, ?_⟩
                refine k F3 rho3 _ _ _ ((s1.trans s2).trans s3) ((p1.trans p2).trans p3) (R3.mutOwn h hc ⟨nPut qs kk b, upd_same, ?_⟩)
                rw [nk_any h4 kk]
                unfold nPut
                by_cases c : kk ∈ qs.map Prod.fst
                · rw [decide_eq_true c, if_pos rfl, if_pos c]
                  exact ⟨h3, h4, h6⟩
                · rw [decide_eq_false c, if_neg Bool.false_ne_true, if_neg c]
                  refine ⟨by rw [List.map_append]; exact h3.append (.cons r3 .nil), by rw [List.map_append, List.map_append, h4]; rw [List.map_cons, hkd]; rfl, fun q hq => ?_⟩
                  rcases List.mem_append.mp hq with hq | hq
                  · exact h6 q hq
                  · cases List.mem_singleton.mp hq
                    exact hdp
            · cases hd
          · cases hd
        · cases e6
      · cases e6
  · cases e6
end
end Mi
set_option Elab.async false
set_option linter.all false
set_option maxRecDepth 100000
set_option maxHeartbeats 1000000
namespace Mi
open PySem PySem.Spec PyProof.Rows L2
structure NE (κ : Type) where
  e : κ → D
  k : κ → NestedKey
  ok : ∀ a, nkD (e a) = some (k a)
  inj : ∀ a b, k a = k b → a = b
  d : Nat
  dep : ∀ a, (k a).depth ≤ d
def nI : NE Int := ⟨.int, .num, fun a => by rw [nkD], fun a b h => NestedKey.num.inj h, 0, fun a => by rw [NestedKey.depth]; exact Nat.le_refl _⟩
section
variable {α β κ : Type}
def n2 (a : NE α) (b : NE β) : NE (α × β) where
  e := fun p => .tup [a.e p.1, b.e p.2]
  k := fun p => .tup [a.k p.1, b.k p.2]
  ok := fun p => by rw [nkD, nkDs, nkDs, nkDs, a.ok, b.ok]
  inj := fun p q h => by
    have h := NestedKey.tup.inj h
    rw [List.cons.injEq, List.cons.injEq] at h
    exact Prod.ext (a.inj _ _ h.1) (b.inj _ _ h.2.1)
  d := max a.d b.d + 1
  dep := fun p => by
    have h1 := a.dep p.1
    have h2 := b.dep p.2
    simp only [NestedKey.depth, NestedKey.depthAll]
    omega
@[reducible] def eNk (Y : NE κ) (xs : List κ) : D := .kt (xs.map Y.e)
def tupK : NestedKey → Bool
  | .tup _ => true
  | _ => false
theorem NE.key (Y : NE κ) (hd : Y.d ≤ 8) (ht : ∀ a, tupK (Y.k a) = true) (a : κ) : nkK (Y.e a) = some (Y.k a) := by
  unfold nkK
  rw [Y.ok a]
  have h1 := Y.dep a
  have h2 := ht a
  cases hk : Y.k a with
  | tup ks =>
    rw [hk] at h1
    dsimp only
    rw [if_pos (by omega)]
  | none => rw [hk] at h2; cases h2
  | num i => rw [hk] at h2; cases h2
  | text x => rw [hk] at h2; cases h2
theorem NE.any [DecidableEq κ] (Y : NE κ) (k0 : κ) : ∀ xs : List κ, ((xs.map Y.e).any fun d => decide (nkD d = some (Y.k k0))) = xs.any fun j => decide (j = k0)
  | [] => rfl
  | x :: xs => by
    rw [List.map_cons, List.any_cons, List.any_cons, NE.any Y k0 xs, Y.ok x]
    have e : decide (some (Y.k x) = some (Y.k k0)) = decide (x = k0) := by
      by_cases c : x = k0
      · rw [c, decide_eq_true rfl, decide_eq_true rfl]
      · rw [decide_eq_false c, decide_eq_false fun e => c (Y.inj _ _ (Option.some.inj e))]
    rw [e]
namespace Pl
def nput [DecidableEq κ] (xs : List κ) (k0 : κ) : Option (List κ) := if xs.length < szl then some (if (xs.any fun j => decide (j = k0)) = true then xs else xs ++ [k0]) else none
end Pl
variable [DecidableEq κ] {a b m : M D} {z z1 z2 : Z} {s : List Sl} {h : List D} {rest : C}
theorem nc_own {n : Nat} {Y : NE κ} {xs : List κ} (hn : z.s[n]? = some (.own (eNk Y xs))) : ncont (.own n) z = some (xs.map Y.e) := by
  unfold ncont
  dsimp only
  rw [hn]
theorem ev_ninP {n : Nat} (Y : NE κ) (hd : Y.d ≤ 8) (ht : ∀ a, tupK (Y.k a) = true) {xs : List κ} {k0 : κ} (h1 : a z = some (Y.e k0, z1)) (h2 : b z1 = some (.own n, z2)) (hn : z2.s[n]? = some (.own (eNk Y xs))) : E.op O.nin a b z = some (.bl (xs.any fun j => decide (j = k0)), z2) := by
  refine ev_op h1 h2 ?_
  unfold O.nin
  rw [nc_own hn, Y.key hd ht k0]
  dsimp only
  rw [Y.any k0 xs]
theorem ev_nnotInP {n : Nat} (Y : NE κ) (hd : Y.d ≤ 8) (ht : ∀ a, tupK (Y.k a) = true) {xs : List κ} {k0 : κ} (h1 : a z = some (Y.e k0, z1)) (h2 : b z1 = some (.own n, z2)) (hn : z2.s[n]? = some (.own (eNk Y xs))) : E.op O.nnotIn a b z = some (.bl (!xs.any fun j => decide (j = k0)), z2) := by
  refine ev_op h1 h2 ?_
  unfold O.nnotIn
  rw [nc_own hn, Y.key hd ht k0]
  dsimp only
  rw [Y.any k0 xs]
theorem cs_nput {n : Nat} (Y : NE κ) (hd : Y.d ≤ 8) (ht : ∀ a, tupK (Y.k a) = true) {xs r : List κ} {k0 : κ} (he : m z = some (.bl true, z1)) (ha : a z1 = some (.own n, z2)) (hb : b z2 = some (Y.e k0, ⟨s, h⟩)) (hn : s[n]? = some (.own (eNk Y xs))) (hr : Pl.nput xs k0 = some r) :
    C.nput a b m z = some (.nx, ⟨s.set n (.own (eNk Y r)), h⟩) := by
  unfold C.nput
  rw [bnd_of he, bnd_of ha, bnd_of hb]
  dsimp only
  rw [hn]
  dsimp only
  unfold nputC
  rw [Y.key hd ht k0]
  dsimp only
  unfold Pl.nput at hr
  rw [List.length_map]
  by_cases c : xs.length < szl
  · rw [if_pos c] at hr ⊢
    rw [Y.any k0 xs]
    cases hr
    by_cases c2 : (xs.any fun j => decide (j = k0)) = true
    · rw [if_pos c2, if_pos c2]
    · rw [if_neg c2, if_neg c2]
      show some (Fl.nx, (⟨s.set n (.own (.kt (xs.map Y.e ++ [Y.e k0]))), h⟩ : Z)) = some (Fl.nx, ⟨s.set n (.own (.kt ((xs ++ [k0]).map Y.e))), h⟩)
      rw [List.map_append]
      rfl
  · rw [if_neg c] at hr
    cases hr
theorem Rf.nput {γ : Type} {n : Nat} {Φ : γ → Fl → Z → Prop} (Y : NE κ) (hd : Y.d ≤ 8) (ht : ∀ a, tupK (Y.k a) = true) {xs : List κ} {k0 : κ} {K : List κ → Option γ} (he : m z = some (.bl true, z1)) (ha : a z1 = some (.own n, z2)) (hb : b z2 = some (Y.e k0, ⟨s, h⟩)) (hn : s[n]? = some (.own (eNk Y xs)))
    {s' : List κ → List Sl} (hs : ∀ r, s.set n (.own (eNk Y r)) = s' r) (k : ∀ r, Rf (K r) rest ⟨s' r, h⟩ Φ) : Rf ((Pl.nput xs k0).bind K) (C.seq (C.nput a b m) rest) z Φ := Rf.bd fun r hr => by
  have q := cs_nput Y hd ht he ha hb hn hr
  rw [hs r] at q
  exact (k r).nx q
end
end Mi
set_option Elab.async false
set_option linter.all false
set_option maxRecDepth 100000
set_option maxHeartbeats 1000000
namespace Mi
open PySem PySem.Spec PyProof.Rows L2
def E.lkL (n : Nat) (m : M D) : M D := fun z => match z.s[n]? with
  | some (.own (.lst ds)) => match m ⟨(List.replicate z.s.length Sl.no).set n (.val (.scr ds)), []⟩ with
    | some (d, z') => if (ds.all (blw 12 0) && (flD d && z'.h.isEmpty)) = true then some (d, z) else none
    | none => none
  | _ => none
section
variable {K : Kx} {B : Bs} {F F3 F6 : Hp} {rho : List Addr} {om : Nat → Option Addr} {z : Z} {σ : L2.St} {H H6 : Hp} {a : Addr} {n : Nat}
theorem Rl.lentD {om3 : Nat → Option Addr} {z3 : Z} (R : Rl K B F rho om3 z3 σ H) {d : D} (h1 : σ[n]? = some (some (.ref a))) (r : Rp K F [] d (.ref a)) :
    Rl K (lkB K H F) F [] (fun _ => none) ⟨(List.replicate z3.s.length Sl.no).set n (.val d), []⟩ σ H := by
  have nn : ∀ (m : Nat) (b : Addr), ¬ ([] : List Addr)[m]? = some b := fun m b e => by simp at e
  have n0 : ∀ (i : Nat) (b : Addr), ¬ (fun _ : Nat => (none : Option Addr)) i = some b := fun i b e => nomatch e
  refine ⟨⟨R.rh.fro, rfl, fun m d b _ e => absurd e (nn m b), fun i j b e => absurd e (nn i b), fun m b e => absurd e (nn m b), R.rh.tb, fun p hp m => nn m _⟩, by simp only [List.length_set, List.length_replicate]; exact R.len, fun i x e => ?_, fun i j b e => absurd e (n0 i b), fun i m b _ => nn m b, fun i b e => absurd e (n0 i b), fun i b e => absurd e (n0 i b), fun _ _ e _ => e, fun _ _ e => e, List.prefix_refl _, fun _ _ _ _ e _ => e, fun m b e => absurd e (nn m b), fun i b e => absurd e (n0 i b), fun i b e => absurd e (n0 i b), fun p hp i => n0 i _, fun p hp => ⟨p, hp, rfl⟩⟩
  by_cases c : i = n
  · subst c
    have hl : i < z3.s.length := by rw [R.len]; exact (List.getElem?_eq_some_iff.mp h1).1
    have e : ((List.replicate z3.s.length Sl.no).set i (.val d))[i]? = some x := e
    rw [List.getElem?_set_self (by simpa using hl)] at e
    cases e
    exact ⟨_, h1, r⟩
  · have e : ((List.replicate z3.s.length Sl.no).set n (.val d))[i]? = some x := e
    rw [List.getElem?_set_ne (Ne.symm c)] at e
    obtain ⟨_, e⟩ := List.getElem?_eq_some_iff.mp e
    rw [List.getElem_replicate] at e
    subst e
    trivial
theorem Rps.blw0 : ∀ {ds : List D} {vs : List V}, Rps K F rho ds vs → ds.all (Mi.blw 12 0) = true → Rps K F [] ds vs
  | _, _, .nil, _ => .nil
  | _, _, .cons h r, q => by
    rw [List.all_cons, Bool.and_eq_true] at q
    exact .cons (Rp.blw (rho := []) (t := rho) rfl 12 q.1 h) (Rps.blw0 r q.2)
end
section
variable {X : Cx} {Tb : Tbs}
theorem me_lkL {e : Expr} {m : M D} (n : Nat) (h : PE X e (Te (kx X Tb) m)) : PE X e (Te (kx X Tb) (E.lkL n m)) := by
  refine pe_imp (pe_lock h) fun σ H Q ⟨B, F, rho, om, z, R, d, z', e, k⟩ => ?_
  unfold E.lkL at e
  cases hs : z.s[n]? with
  | none =>
    rw [hs] at e
    cases e
  | some x =>
    cases x with
    | no =>
      rw [hs] at e
      cases e
    | val x =>
      rw [hs] at e
      cases e
    | own x =>
      rw [hs] at e
      cases x with
      | lst ds =>
        dsimp only at e
        cases hm : m ⟨(List.replicate z.s.length Sl.no).set n (.val (.scr ds)), []⟩ with
        | none =>
          rw [hm] at e
          cases e
        | some y =>
          obtain ⟨d1, z1⟩ := y
          rw [hm] at e
          dsimp only at e
          by_cases hd : (ds.all (blw 12 0) && (flD d1 && z1.h.isEmpty)) = true
          · rw [if_pos hd] at e
            cases e
            rw [Bool.and_eq_true, Bool.and_eq_true] at hd
            obtain ⟨hk, hd⟩ := hd
            obtain ⟨a, h1, h2, xs, h3, h5⟩ := R.sl n _ hs
            refine ⟨a, .lst xs, h3, trivial, fun od => ?_⟩
            have f0 := R.freshOwn h1
            obtain ⟨F3, R3, s3, q3⟩ := (R.forget n).lock (u := .lst xs) f0 od
            have R4 := R3.lentD (n := n) (d := .scr ds) h2 (.scr (.inl (.inr ⟨od, q3⟩)) ((h5.mono s3 (List.prefix_refl _)).blw0 hk))
            have R4 : Rl (kx X Tb) (lkB (kx X Tb) _ F3) F3 [] (fun _ => none) ⟨(List.replicate (z.s.set n Sl.no).length Sl.no).set n (.val (.scr ds)), []⟩ σ (upd H a (.frz od (.lst xs))) := R4
            rw [List.length_set] at R4
            refine ⟨_, F3, [], _, _, R4, _, z1, hm, fun F6 rho6 H6 v s6 p6 R6 r6 => ?_⟩
            have e1 : z1.h = [] := List.isEmpty_iff.mp hd.2
            have e2 : rho6 = [] := by
              have := R6.rh.len
              rw [e1] at this
              exact List.length_eq_zero_iff.mp this.symm
            subst e2
            refine ⟨R6.rh.fro _ _ (s6 _ _ q3), ?_⟩
            have R7 := R.again (u := .lst xs) (od := od) h1 h3 s3 q3 R3 R6
            have sF : Same F (cutF F6 a) := Same.cut (s3.trans s6) (R.off n a h1)
            refine k (cutF F6 a) rho _ v sF (List.prefix_refl _) R7 (.pure ?_)
            have r6 : Rp (kx X Tb) F6 [] d v := by
              cases r6 with
              | pure r => exact r
              | own _ => cases hd.1
            refine r6.flat hd.1 fun b o eb hno => ?_
            rw [cutF_ne fun c => ?_]
            · exact eb
            · rw [c, s6 _ _ q3] at eb
              cases eb
              exact hno _ _ rfl
          · rw [if_neg hd] at e
            cases e
      | _ => cases e
end
section
variable {α β : Type}
/-- a list that is only read -/
@[reducible] def eSc (e : α → D) (xs : List α) : D := .scr (xs.map e)
theorem ev_lkL {s : List Sl} {h : List D} {n : Nat} {ds : List D} {mf : Fn} {d : D} (hi : s[n]? = some (.own (.lst ds))) (hm : mf [.scr ds] [] = some (d, [])) (hk : ds.all (blw 12 0) = true) (hd : flD d = true) : E.lkL n (E.call mf [E.var n]) ⟨s, h⟩ = some (d, ⟨s, h⟩) := by
  have hl : n < s.length := (List.getElem?_eq_some_iff.mp hi).1
  have e : ((List.replicate s.length Sl.no).set n (.val (.scr ds)))[n]? = some (.val (.scr ds)) := List.getElem?_set_self (by simpa using hl)
  unfold E.lkL
  show (match s[n]? with | some (.own (.lst ds)) => _ | _ => none) = _
  rw [hi]
  dsimp only
  have e2 : E.call mf [E.var n] ⟨(List.replicate s.length Sl.no).set n (.val (.scr ds)), []⟩ = some (d, ⟨(List.replicate s.length Sl.no).set n (.val (.scr ds)), []⟩) := by
    have e3 : E.args [E.var n] ⟨(List.replicate s.length Sl.no).set n (.val (.scr ds)), []⟩ = some ([.scr ds], ⟨(List.replicate s.length Sl.no).set n (.val (.scr ds)), []⟩) := by
      simp only [E.args, bnd, E.var, e, isPure]
      rfl
    unfold E.call bnd
    rw [e3]
    dsimp only
    rw [hm]
  rw [e2]
  dsimp only
  rw [hk, hd]
  rfl
theorem ev_lkLP {s : List Sl} {h : List D} {n : Nat} (e : α → D) {xs : List α} {mf : Fn} {d : D} (hi : s[n]? = some (.own (.lst (xs.map e)))) (hm : mf [eSc e xs] [] = some (d, [])) (hk : ∀ x, blw 12 0 (e x) = true) (hd : flD d = true) : E.lkL n (E.call mf [E.var n]) ⟨s, h⟩ = some (d, ⟨s, h⟩) :=
  ev_lkL hi hm (by rw [List.all_eq_true]; intro d hd; obtain ⟨x, _, rfl⟩ := List.mem_map.mp hd; exact hk x) hd
theorem ev_intB {a : M D} {z z1 : Z} {k : Bool} (h : a z = some (.bl k, z1)) : E.blt F.int1 [a] z = some (.int (if k then 1 else 0), z1) := ev_blt1 h rfl
def asI : D → Option Int
  | .int i => some i
  | _ => none
theorem asI_some {d : D} {i : Int} (h : asI d = some i) : d = .int i := by
  cases d <;> first | (cases h; done) | (cases h; rfl)
namespace Pl
def atO (xs : List (Option Int)) (i : Int) : Option Int := (Pl.at_ xs i).bind id
end Pl
theorem atO_ok {ds : List D} {i : Int} {r : Int} (h : Pl.atO (ds.map asI) i = some r) : atI ds i = some (.int r) := by
  unfold Pl.atO Pl.at_ atI at h
  unfold atI
  rw [List.length_map] at h
  cases hn : ixN ds.length i with
  | none => rw [hn] at h; cases h
  | some n =>
    rw [hn] at h
    have h : ((ds.map asI)[n]?).bind id = some r := h
    show ds[n]? = _
    rw [List.getElem?_map] at h
    cases hd : ds[n]? with
    | none => rw [hd] at h; cases h
    | some d =>
      rw [hd] at h
      have h : asI d = some r := h
      rw [asI_some h]
theorem ev_ixO {a b : M D} {z z1 z2 : Z} {x : D} {i : Int} {tt : Bool} {ds : List D} {xs : List (Option Int)} {r : Int} (h1 : a z = some (x, z1)) (h2 : b z1 = some (.int i, z2)) (h3 : cont x z2 = some (tt, ds)) (hx : ds.map asI = xs) (h4 : Pl.atO xs i = some r) : E.op O.ix a b z = some (.int r, z2) :=
  ev_ix h1 h2 h3 (atO_ok (by rw [hx]; exact h4))
end
end Mi
set_option Elab.async false
set_option linter.all false
set_option maxRecDepth 100000
namespace W
open PySem L2 Mi
noncomputable section
theorem sc_law_state : FnScope ["_law_script", "_law_seed", "_law_cell"] ["_law_script"] (defScope s_law_state) := ⟨rfl, rfl, rfl, by decide +kernel, rfl, by decide +kernel, by decide +kernel⟩
theorem sc_law_draw : FnScope ["_law_state_here", "_law_many", "_law_cells", "_law_value", "_law_mixed"] ["_law_state_here", "_law_many"] (defScope s_law_draw) := ⟨rfl, rfl, rfl, by decide +kernel, rfl, by decide +kernel, by decide +kernel⟩
theorem sc_law_mesh : FnScope ["_law_state_here", "_law_many", "_law_plates", "_law_k", "_law_portals", "_law_one", "_law_other", "_law_x", "_law_z", "_law_long", "_law_across"] ["_law_state_here"] (defScope s_law_mesh) := ⟨rfl, rfl, rfl, by decide +kernel, rfl, by decide +kernel, by decide +kernel⟩
theorem sc_law_apart : FnScope ["_law_one", "_law_other"] ["_law_one", "_law_other"] (defScope s_law_apart) := ⟨rfl, rfl, rfl, by decide +kernel, rfl, by decide +kernel, by decide +kernel⟩
theorem sc_law_middle : FnScope ["_law_portal"] ["_law_portal"] (defScope s_law_middle) := ⟨rfl, rfl, rfl, by decide +kernel, rfl, by decide +kernel, by decide +kernel⟩
theorem sc_law_least : FnScope ["_law_mesh_here", "_law_start", "_law_goal", "_law_portals", "_law_paid", "_law_k", "_law_side", "_law_turn", "_law_at", "_law_plate", "_law_more", "_law_key", "_law_found"] ["_law_mesh_here", "_law_start", "_law_goal"] (defScope s_law_least) := ⟨rfl, rfl, rfl, by decide +kernel, rfl, by decide +kernel, by decide +kernel⟩
theorem sc_neighbours : FnScope ["mesh", "plates", "portals", "found", "_", "at", "one", "other", "x0", "z0", "x1", "z1"] ["mesh"] (defScope s_neighbours) := ⟨rfl, rfl, rfl, by decide +kernel, rfl, by decide +kernel, by decide +kernel⟩
theorem sc_next_open : FnScope ["waiting", "least", "at"] ["waiting"] (defScope s_next_open) := ⟨rfl, rfl, rfl, by decide +kernel, rfl, by decide +kernel, by decide +kernel⟩
theorem sc_doubled_middle : FnScope ["portal"] ["portal"] (defScope s_doubled_middle) := ⟨rfl, rfl, rfl, by decide +kernel, rfl, by decide +kernel, by decide +kernel⟩
theorem sc_apart : FnScope ["one", "other"] ["one", "other"] (defScope s_apart) := ⟨rfl, rfl, rfl, by decide +kernel, rfl, by decide +kernel, by decide +kernel⟩
theorem sc_cheapest : FnScope ["mesh", "start", "goal", "beside", "best", "done", "waiting", "end", "paid", "way", "plate", "point", "portal", "other", "middle"] ["mesh", "start", "goal"] (defScope s_cheapest) := ⟨rfl, rfl, rfl, by decide +kernel, rfl, by decide +kernel, by decide +kernel⟩
theorem sc_plates_of : FnScope ["mesh", "start", "way", "portals", "found", "at", "one", "other"] ["mesh", "start", "way"] (defScope s_plates_of) := ⟨rfl, rfl, rfl, by decide +kernel, rfl, by decide +kernel, by decide +kernel⟩
theorem sc_law_pick : FnScope ["_law_state_here", "_law_row"] ["_law_state_here", "_law_row"] (defScope s_law_pick) := ⟨rfl, rfl, rfl, by decide +kernel, rfl, by decide +kernel, by decide +kernel⟩
theorem sc_law_walk : FnScope ["_law_state_here", "_law_mesh_here", "_law_plate", "_law_way", "_law_turn", "_law_here", "_law_k"] ["_law_state_here", "_law_mesh_here", "_law_plate"] (defScope s_law_walk) := ⟨rfl, rfl, rfl, by decide +kernel, rfl, by decide +kernel, by decide +kernel⟩
theorem sc_law_cost : FnScope ["_law_mesh_here", "_law_start", "_law_goal", "_law_way", "_law_here", "_law_paid", "_law_portal", "_law_middle_here"] ["_law_mesh_here", "_law_start", "_law_goal", "_law_way"] (defScope s_law_cost) := ⟨rfl, rfl, rfl, by decide +kernel, rfl, by decide +kernel, by decide +kernel⟩
theorem sc_cost : FnScope ["mesh", "start", "goal", "way", "points", "at"] ["mesh", "start", "goal", "way"] (defScope s_cost) := ⟨rfl, rfl, rfl, by decide +kernel, rfl, by decide +kernel, by decide +kernel⟩
theorem sc_law : FnScope ["_law_script", "_law_state_here", "_law_mesh_here", "_law_before", "_law_many", "_law_turn", "_law_start", "_law_goal", "_law_due", "_law_told", "_law_k", "_law_plates", "_law_way", "_law_plate", "_law_there"] ["_law_script"] (defScope s_law) := ⟨rfl, rfl, rfl, by decide +kernel, rfl, by decide +kernel, by decide +kernel⟩
def lp_law_state1 : C := (C.set 1 (E.op O.mod (E.blt F.int1 [(E.op O.add (E.op O.mul (E.var 1) (E.c (.int 31))) (E.var 2))]) (E.c (.int 1000003))))
@[reducible] def st_law_state_3 : C := (C.ret (E.shr (N.disp [(E.shr (N.comp (I.seqC (E.var 0)) (G.nm 2) [2] (ret true) (E.blt F.abs [(E.var 2)]))), (E.op O.add (E.var 1) (E.c (.int 1)))])))
@[reducible] def st_law_state_2 : C := (C.for_ (I.seq (E.var 0)) (G.nm 2) lp_law_state1)
def b_law_state : C := (C.seq (C.set 1 (E.c (.int 7))) (C.seq st_law_state_2 st_law_state_3))
def m_law_state : Fn := fn 3 1 b_law_state
def lp_law_draw1 : C := (C.drop (E.chg U.popAt (E.var 2) [(E.c (.int 0))]))
@[reducible] def st_law_draw_6 : C := (C.ret (E.op O.mod (E.blt F.int1 [(E.op O.div (E.var 4) (E.c (.int 64)))]) (E.var 1)))
@[reducible] def st_law_draw_5 : C := (C.setIx (E.var 0) (E.c (.int 1)) (E.var 4))
@[reducible] def st_law_draw_4 : C := (C.set 4 (E.op O.mod (E.blt F.int1 [(E.op O.add (E.op O.mul (E.op O.ix (E.var 0) (E.c (.int 1))) (E.c (.int 48271))) (E.c (.int 12345)))]) (E.c (.int 2147483647))))
@[reducible] def st_law_draw_3 : C := (C.ite (T.val (E.op O.gt (E.blt F.len [(E.var 2)]) (E.c (.int 0)))) (C.seq (C.set 3 (E.op O.ix (E.var 2) (E.c (.int 0)))) (C.seq (C.setIx (E.var 2) (E.c (.int 0)) (E.op O.div (E.var 3) (E.var 1))) (C.ret (E.op O.mod (E.blt F.int1 [(E.var 3)]) (E.var 1))))) C.skip)
@[reducible] def st_law_draw_2 : C := (C.whl (T.and (T.val (E.op O.gt (E.blt F.len [(E.var 2)]) (E.c (.int 0)))) (T.val (E.op O.eq (E.op O.ix (E.var 2) (E.c (.int 0))) (E.c (.int 0))))) lp_law_draw1)
@[reducible] def st_law_draw_1 : C := (C.set 2 (E.op O.ix (E.var 0) (E.c (.int 0))))
def b_law_draw : C := (C.seq st_law_draw_1 (C.seq st_law_draw_2 (C.seq st_law_draw_3 (C.seq st_law_draw_4 (C.seq st_law_draw_5 st_law_draw_6)))))
def m_law_draw : Fn := fn 5 2 b_law_draw
def cp_law_mesh1 : M (List D) := (N.comp (I.rng1 (E.var 1)) (G.nm 3) [3] (ret true) (E.tup [(E.c (.str "plate")), (E.var 3), (E.c (.int 0)), (E.var 3), (E.c (.int 0)), (E.tup [(E.c (.int 1))])]))
def lp_law_mesh2 : C := (C.seq (C.set 5 (E.call m_law_draw [(E.var 0), (E.var 1)])) (C.seq (C.set 6 (E.call m_law_draw [(E.var 0), (E.var 1)])) (C.seq (C.set 7 (E.call m_law_draw [(E.var 0), (E.c (.int 60))])) (C.seq (C.set 8 (E.call m_law_draw [(E.var 0), (E.c (.int 60))])) (C.seq (C.set 9 (E.op O.add (E.c (.int 3)) (E.call m_law_draw [(E.var 0), (E.c (.int 9))]))) (C.seq (C.set 10 (E.call m_law_draw [(E.var 0), (E.c (.int 2))])) (C.ite (T.val (E.op O.ne (E.var 5) (E.var 6))) (C.drop (E.chg U.append (E.var 4) [(E.tup [(E.c (.str "portal")), (E.var 5), (E.var 6), (E.var 7), (E.var 8), (E.op O.add (E.var 7) (E.op O.mul (E.var 10) (E.var 9))), (E.op O.add (E.var 8) (E.op O.mul (E.op O.sub (E.c (.int 1)) (E.var 10)) (E.var 9)))])])) C.skip)))))))
@[reducible] def st_law_mesh_5 : C := (C.ret (E.tup [(E.var 2), (E.var 4)]))
@[reducible] def st_law_mesh_4 : C := (C.for_ (I.rng1 (E.call m_law_draw [(E.var 0), (E.c (.int 15))])) (G.nm 3) lp_law_mesh2)
@[reducible] def st_law_mesh_1 : C := (C.set 1 (E.op O.add (E.c (.int 1)) (E.call m_law_draw [(E.var 0), (E.c (.int 9))])))
def b_law_mesh : C := (C.seq st_law_mesh_1 (C.seq (C.set 2 (E.frz cp_law_mesh1)) (C.seq (C.own 4 (N.disp [])) (C.seq st_law_mesh_4 (C.seq (C.frz 4) st_law_mesh_5)))))
def m_law_mesh : Fn := fn 11 1 b_law_mesh
@[reducible] def st_law_apart_1 : C := (C.ret (E.op O.add (E.blt F.abs [(E.op O.sub (E.op O.ix (E.var 0) (E.c (.int 0))) (E.op O.ix (E.var 1) (E.c (.int 0))))]) (E.blt F.abs [(E.op O.sub (E.op O.ix (E.var 0) (E.c (.int 1))) (E.op O.ix (E.var 1) (E.c (.int 1))))])))
def b_law_apart : C := st_law_apart_1
def m_law_apart : Fn := fn 2 2 b_law_apart
@[reducible] def st_law_middle_1 : C := (C.ret (E.tup [(E.op O.add (E.op O.ix (E.var 0) (E.c (.int 3))) (E.op O.ix (E.var 0) (E.c (.int 5)))), (E.op O.add (E.op O.ix (E.var 0) (E.c (.int 4))) (E.op O.ix (E.var 0) (E.c (.int 6))))]))
def b_law_middle : C := st_law_middle_1
def m_law_middle : Fn := fn 1 1 b_law_middle
def lp_law_least1 : C := (C.ite (T.val (E.op O.eq (E.op O.ix (E.op O.ix (E.var 3) (E.var 5)) (E.var 6)) (E.op O.ix (E.var 1) (E.c (.int 2))))) (C.dput (E.var 4) (E.tup [(E.var 5), (E.op O.ix (E.op O.ix (E.var 3) (E.var 5)) (E.op O.sub (E.c (.int 3)) (E.var 6)))]) (E.call m_law_apart [(E.tup [(E.op O.mul (E.c (.int 2)) (E.op O.ix (E.var 1) (E.c (.int 0)))), (E.op O.mul (E.c (.int 2)) (E.op O.ix (E.var 1) (E.c (.int 1))))]), (E.call m_law_middle [(E.op O.ix (E.var 3) (E.var 5))])])) C.skip)
def lp_law_least2 : C := (C.for_ (I.seq (E.frz (N.disp [(E.c (.int 1)), (E.c (.int 2))]))) (G.nm 6) lp_law_least1)
def lp_law_least3 : C := (C.seq (C.set 10 (E.op O.add (E.op O.dix (E.var 4) (E.tup [(E.var 8), (E.var 9)])) (E.call m_law_apart [(E.call m_law_middle [(E.op O.ix (E.var 3) (E.var 8))]), (E.call m_law_middle [(E.op O.ix (E.var 3) (E.var 5))])]))) (C.seq (C.set 11 (E.tup [(E.var 5), (E.op O.ix (E.op O.ix (E.var 3) (E.var 5)) (E.op O.sub (E.c (.int 3)) (E.var 6)))])) (C.ite (T.and (T.val (E.op O.eq (E.op O.ix (E.op O.ix (E.var 3) (E.var 5)) (E.var 6)) (E.var 9))) (T.val (E.op O.gt (E.get2 (E.var 4) (E.var 11) (E.op O.add (E.var 10) (E.c (.int 1)))) (E.var 10)))) (C.dput (E.var 4) (E.var 11) (E.var 10)) C.skip)))
def lp_law_least4 : C := (C.for_ (I.seq (E.frz (N.disp [(E.c (.int 1)), (E.c (.int 2))]))) (G.nm 6) lp_law_least3)
def lp_law_least5 : C := (C.for_ (I.rng1 (E.blt F.len [(E.var 3)])) (G.nm 5) lp_law_least4)
def lp_law_least6 : C := (C.for_ (I.seq (E.lk 4 (E.frz (N.sortedD (E.var 4))))) (G.tp [(G.nm 8), (G.nm 9)]) lp_law_least5)
def cp_law_least7 : M (List D) := (N.comp (I.seqC (E.frz (N.sortedD (E.var 4)))) (G.nm 11) [11] (T.val (E.op O.eq (E.op O.ix (E.var 11) (E.c (.int 1))) (E.op O.ix (E.var 2) (E.c (.int 2))))) (E.op O.add (E.op O.dix (E.var 4) (E.var 11)) (E.call m_law_apart [(E.call m_law_middle [(E.op O.ix (E.var 3) (E.op O.ix (E.var 11) (E.c (.int 0))))]), (E.tup [(E.op O.mul (E.c (.int 2)) (E.op O.ix (E.var 2) (E.c (.int 0)))), (E.op O.mul (E.c (.int 2)) (E.op O.ix (E.var 2) (E.c (.int 1))))])])))
@[reducible] def st_law_least_8 : C := (C.ret (E.blt F.minR [(E.var 12)]))
@[reducible] def st_law_least_7 : C := (C.ite (T.val (E.op O.eq (E.blt F.len [(E.var 12)]) (E.c (.int 0)))) (C.ret (E.c .non)) C.skip)
@[reducible] def st_law_least_6 : C := (C.ite (T.val (E.op O.eq (E.op O.ix (E.var 1) (E.c (.int 2))) (E.op O.ix (E.var 2) (E.c (.int 2))))) (C.drop (E.chg U.append (E.var 12) [(E.call m_law_apart [(E.tup [(E.op O.mul (E.c (.int 2)) (E.op O.ix (E.var 1) (E.c (.int 0)))), (E.op O.mul (E.c (.int 2)) (E.op O.ix (E.var 1) (E.c (.int 1))))]), (E.tup [(E.op O.mul (E.c (.int 2)) (E.op O.ix (E.var 2) (E.c (.int 0)))), (E.op O.mul (E.c (.int 2)) (E.op O.ix (E.var 2) (E.c (.int 1))))])])])) C.skip)
@[reducible] def st_law_least_4 : C := (C.for_ (I.rng1 (E.op O.mul (E.c (.int 2)) (E.blt F.len [(E.var 3)]))) (G.nm 7) lp_law_least6)
@[reducible] def st_law_least_3 : C := (C.for_ (I.rng1 (E.blt F.len [(E.var 3)])) (G.nm 5) lp_law_least2)
@[reducible] def st_law_least_1 : C := (C.set 3 (E.op O.ix (E.var 0) (E.c (.int 1))))
def b_law_least : C := (C.seq st_law_least_1 (C.seq (C.ownN 4 (ret (.dt []))) (C.seq st_law_least_3 (C.seq st_law_least_4 (C.seq (C.frzD 4) (C.seq (C.own 12 cp_law_least7) (C.seq st_law_least_6 (C.seq (C.frz 12) (C.seq st_law_least_7 st_law_least_8)))))))))
def m_law_least : Fn := fn 13 3 b_law_least
def lp_neighbours1 : C := (C.seq (C.asg (G.tp [(G.nm 4), (G.nm 6), (G.nm 7), (G.nm 8), (G.nm 9), (G.nm 10), (G.nm 11)]) (E.op O.ix (E.var 2) (E.var 5))) (C.seq (C.drop (E.chg U.append (E.op O.ix (E.var 3) (E.var 6)) [(E.tup [(E.var 5), (E.var 7)])])) (C.drop (E.chg U.append (E.op O.ix (E.var 3) (E.var 7)) [(E.tup [(E.var 5), (E.var 6)])]))))
@[reducible] def st_neighbours_3 : C := (C.for_ (I.rng1 (E.blt F.len [(E.var 2)])) (G.nm 5) lp_neighbours1)
@[reducible] def st_neighbours_2 : C := (C.set 3 (E.frz (N.comp (I.seqC (E.var 1)) (G.nm 4) [4] (ret true) (E.shr (N.disp [])))))
@[reducible] def st_neighbours_1 : C := (C.asg (G.tp [(G.nm 1), (G.nm 2)]) (E.var 0))
def b_neighbours : C := (C.seq st_neighbours_1 (C.seq st_neighbours_2 (C.seq st_neighbours_3 (C.ret (E.var 3)))))
def m0_neighbours : Fn := fn 12 1 b_neighbours
def m_neighbours : Fn := gcF m0_neighbours
def lp_next_open1 : C := (C.ite (T.val (E.op O.lt (E.op O.ix (E.op O.ix (E.var 0) (E.var 2)) (E.c (.int 0))) (E.op O.ix (E.op O.ix (E.var 0) (E.var 1)) (E.c (.int 0))))) (C.set 1 (E.var 2)) C.skip)
@[reducible] def st_next_open_2 : C := (C.for_ (I.rng1 (E.blt F.len [(E.var 0)])) (G.nm 2) lp_next_open1)
def b_next_open : C := (C.seq (C.set 1 (E.c (.int 0))) (C.seq st_next_open_2 (C.ret (E.var 1))))
def m_next_open : Fn := fn 3 1 b_next_open
@[reducible] def st_doubled_middle_1 : C := (C.ret (E.tup [(E.op O.add (E.op O.ix (E.var 0) (E.c (.int 3))) (E.op O.ix (E.var 0) (E.c (.int 5)))), (E.op O.add (E.op O.ix (E.var 0) (E.c (.int 4))) (E.op O.ix (E.var 0) (E.c (.int 6))))]))
def b_doubled_middle : C := st_doubled_middle_1
def m_doubled_middle : Fn := fn 1 1 b_doubled_middle
@[reducible] def st_apart_1 : C := (C.ret (E.op O.add (E.blt F.abs [(E.op O.sub (E.op O.ix (E.var 0) (E.c (.int 0))) (E.op O.ix (E.var 1) (E.c (.int 0))))]) (E.blt F.abs [(E.op O.sub (E.op O.ix (E.var 0) (E.c (.int 1))) (E.op O.ix (E.var 1) (E.c (.int 1))))])))
def b_apart : C := st_apart_1
def m_apart : Fn := fn 2 2 b_apart
def lp_cheapest1 : C := (C.seq (C.set 14 (E.call m_doubled_middle [(E.op O.ix (E.op O.ix (E.var 0) (E.c (.int 1))) (E.var 12))])) (C.ite (T.and (T.val (E.op O.nnotIn (E.tup [(E.var 13), (E.var 14)]) (E.var 5))) (T.val (E.op O.ne (E.frz (N.slice (E.var 9) (some (E.un O.neg (E.c (.int 1)))) none)) (E.frz (N.disp [(E.var 12)]))))) (C.drop (E.chg U.append (E.var 6) [(E.tup [(E.op O.add (E.var 8) (E.call m_apart [(E.var 11), (E.var 14)])), (E.frz (N.cat (E.var 9) (E.frz (N.disp [(E.var 12)])))), (E.var 13), (E.var 14)])])) C.skip))
def lp_cheapest2 : C := (C.seq (C.asg (G.tp [(G.nm 8), (G.nm 9), (G.nm 10), (G.nm 11)]) (E.chg U.popAt (E.var 6) [(E.lkL 6 (E.call m_next_open [(E.var 6)]))])) (C.seq (C.ite (T.and (T.val (E.notN (E.var 4))) (T.val (E.op O.ge (E.var 8) (E.op O.ix (E.var 4) (E.c (.int 0)))))) (C.ret (E.var 4)) C.skip) (C.seq (C.ite (T.val (E.op O.nin (E.tup [(E.var 10), (E.var 11)]) (E.var 5))) C.cnt C.skip) (C.seq (C.nput (E.var 5) (E.tup [(E.var 10), (E.var 11)]) (E.c (.bl true))) (C.seq (C.ite (T.and (T.val (E.op O.eq (E.var 10) (E.op O.ix (E.var 2) (E.c (.int 2))))) (T.or (T.val (E.isN (E.var 4))) (T.val (E.op O.lt (E.op O.add (E.var 8) (E.call m_apart [(E.var 11), (E.var 7)])) (E.op O.ix (E.var 4) (E.c (.int 0))))))) (C.set 4 (E.tup [(E.op O.add (E.var 8) (E.call m_apart [(E.var 11), (E.var 7)])), (E.var 9)])) C.skip) (C.for_ (I.seq (E.op O.ix (E.var 3) (E.var 10))) (G.tp [(G.nm 12), (G.nm 13)]) lp_cheapest1))))))
@[reducible] def st_cheapest_6 : C := (C.whl (T.tru (E.var 6)) lp_cheapest2)
@[reducible] def st_cheapest_5 : C := (C.set 7 (E.tup [(E.op O.mul (E.c (.int 2)) (E.op O.ix (E.var 2) (E.c (.int 0)))), (E.op O.mul (E.c (.int 2)) (E.op O.ix (E.var 2) (E.c (.int 1))))]))
@[reducible] def st_cheapest_4 : C := (C.own 6 (N.disp [(E.tup [(E.c (.int 0)), (E.frz (N.disp [])), (E.op O.ix (E.var 1) (E.c (.int 2))), (E.tup [(E.op O.mul (E.c (.int 2)) (E.op O.ix (E.var 1) (E.c (.int 0)))), (E.op O.mul (E.c (.int 2)) (E.op O.ix (E.var 1) (E.c (.int 1))))])])]))
@[reducible] def st_cheapest_1 : C := (C.set 3 (E.call m_neighbours [(E.var 0)]))
def b_cheapest : C := (C.seq st_cheapest_1 (C.seq (C.set 4 (E.c .non)) (C.seq (C.ownN 5 (ret (.kt []))) (C.seq st_cheapest_4 (C.seq st_cheapest_5 (C.seq st_cheapest_6 (C.ret (E.var 4))))))))
def m_cheapest : Fn := fn 15 3 b_cheapest
def lp_plates_of1 : C := (C.seq (C.asg (G.tp [(G.nm 6), (G.nm 7)]) (E.cutT (E.op O.ix (E.var 3) (E.var 5)) (some (E.c (.int 1))) (some (E.c (.int 3))))) (C.ite (T.val (E.op O.eq (E.op O.ix (E.var 4) (E.un O.neg (E.c (.int 1)))) (E.var 6))) (C.drop (E.chg U.append (E.var 4) [(E.var 7)])) (C.ite (T.val (E.op O.eq (E.op O.ix (E.var 4) (E.un O.neg (E.c (.int 1)))) (E.var 7))) (C.drop (E.chg U.append (E.var 4) [(E.var 6)])) (C.ret (E.c .non)))))
@[reducible] def st_plates_of_3 : C := (C.for_ (I.seq (E.var 2)) (G.nm 5) lp_plates_of1)
@[reducible] def st_plates_of_1 : C := (C.set 3 (E.op O.ix (E.var 0) (E.c (.int 1))))
def b_plates_of : C := (C.seq st_plates_of_1 (C.seq (C.own 4 (N.disp [(E.var 1)])) (C.seq st_plates_of_3 (C.ret (E.var 4)))))
def m_plates_of : Fn := fn 8 3 b_plates_of
@[reducible] def st_law_pick_1 : C := (C.ret (E.op O.ix (E.var 1) (E.call m_law_draw [(E.var 0), (E.blt F.len [(E.var 1)])])))
def b_law_pick : C := st_law_pick_1
def m_law_pick : Fn := fn 2 2 b_law_pick
def cp_law_walk1 : M (List D) := (N.comp (I.rng1 (E.blt F.len [(E.op O.ix (E.var 1) (E.c (.int 1)))])) (G.nm 6) [6] (T.val (E.op O.isIn (E.var 2) (E.cutT (E.op O.ix (E.op O.ix (E.var 1) (E.c (.int 1))) (E.var 6)) (some (E.c (.int 1))) (some (E.c (.int 3)))))) (E.var 6))
def lp_law_walk2 : C := (C.seq (C.set 5 (E.frz cp_law_walk1)) (C.ite (T.val (E.op O.gt (E.blt F.len [(E.var 5)]) (E.c (.int 0)))) (C.seq (C.set 6 (E.call m_law_pick [(E.var 0), (E.var 5)])) (C.seq (C.drop (E.chg U.append (E.var 3) [(E.var 6)])) (C.set 2 (E.op O.ix (E.op O.ix (E.op O.ix (E.var 1) (E.c (.int 1))) (E.var 6)) (E.op O.add (E.c (.int 1)) (E.blt F.int1 [(E.op O.eq (E.op O.ix (E.op O.ix (E.op O.ix (E.var 1) (E.c (.int 1))) (E.var 6)) (E.c (.int 1))) (E.var 2))])))))) C.skip))
@[reducible] def st_law_walk_3 : C := (C.ret (E.frz (N.disp [(E.var 3), (E.var 2)])))
@[reducible] def st_law_walk_2 : C := (C.for_ (I.rng1 (E.call m_law_draw [(E.var 0), (E.c (.int 5))])) (G.nm 4) lp_law_walk2)
def b_law_walk : C := (C.seq (C.own 3 (N.disp [])) (C.seq st_law_walk_2 (C.seq (C.frz 3) st_law_walk_3)))
def m_law_walk : Fn := fn 7 3 b_law_walk
def lp_law_cost1 : C := (C.seq (C.set 7 (E.call m_law_middle [(E.op O.ix (E.op O.ix (E.var 0) (E.c (.int 1))) (E.var 6))])) (C.seq (C.set 5 (E.op O.add (E.var 5) (E.call m_law_apart [(E.var 4), (E.var 7)]))) (C.set 4 (E.var 7))))
@[reducible] def st_law_cost_4 : C := (C.ret (E.op O.add (E.var 5) (E.call m_law_apart [(E.var 4), (E.tup [(E.op O.mul (E.c (.int 2)) (E.op O.ix (E.var 2) (E.c (.int 0)))), (E.op O.mul (E.c (.int 2)) (E.op O.ix (E.var 2) (E.c (.int 1))))])])))
@[reducible] def st_law_cost_3 : C := (C.for_ (I.seq (E.var 3)) (G.nm 6) lp_law_cost1)
@[reducible] def st_law_cost_1 : C := (C.set 4 (E.tup [(E.op O.mul (E.c (.int 2)) (E.op O.ix (E.var 1) (E.c (.int 0)))), (E.op O.mul (E.c (.int 2)) (E.op O.ix (E.var 1) (E.c (.int 1))))]))
def b_law_cost : C := (C.seq st_law_cost_1 (C.seq (C.set 5 (E.c (.int 0))) (C.seq st_law_cost_3 st_law_cost_4)))
def m_law_cost : Fn := fn 8 4 b_law_cost
def cp_cost1 : M (List D) := (N.comp (I.seqC (E.var 3)) (G.nm 5) [5] (ret true) (E.call m_doubled_middle [(E.op O.ix (E.op O.ix (E.var 0) (E.c (.int 1))) (E.var 5))]))
def cp_cost2 : M (List D) := (N.comp (I.rng1 (E.op O.sub (E.blt F.len [(E.var 4)]) (E.c (.int 1)))) (G.nm 5) [5] (ret true) (E.call m_apart [(E.op O.ix (E.var 4) (E.var 5)), (E.op O.ix (E.var 4) (E.op O.add (E.var 5) (E.c (.int 1))))]))
@[reducible] def st_cost_4 : C := (C.ret (E.blt F.sum [(E.frz cp_cost2)]))
@[reducible] def st_cost_3 : C := (C.drop (E.chg U.append (E.var 4) [(E.tup [(E.op O.mul (E.c (.int 2)) (E.op O.ix (E.var 2) (E.c (.int 0)))), (E.op O.mul (E.c (.int 2)) (E.op O.ix (E.var 2) (E.c (.int 1))))])]))
@[reducible] def st_cost_2 : C := (C.own 4 (N.cat (E.var 4) (E.frz cp_cost1)))
@[reducible] def st_cost_1 : C := (C.own 4 (N.disp [(E.tup [(E.op O.mul (E.c (.int 2)) (E.op O.ix (E.var 1) (E.c (.int 0)))), (E.op O.mul (E.c (.int 2)) (E.op O.ix (E.var 1) (E.c (.int 1))))])]))
def b_cost : C := (C.seq st_cost_1 (C.seq st_cost_2 (C.seq st_cost_3 (C.seq (C.frz 4) st_cost_4))))
def m_cost : Fn := fn 6 4 b_cost
def cp_law1 : M (List D) := (N.comp (I.rng1 (E.op O.sub (E.blt F.len [(E.op O.ix (E.var 9) (E.c (.int 1)))]) (E.c (.int 1)))) (G.nm 10) [10] (T.val (E.op O.eq (E.op O.ix (E.op O.ix (E.var 9) (E.c (.int 1))) (E.var 10)) (E.op O.ix (E.op O.ix (E.var 9) (E.c (.int 1))) (E.op O.add (E.var 10) (E.c (.int 1)))))) (E.var 10))
def lp_law2 : C := (C.seq (C.set 6 (E.tup [(E.call m_law_draw [(E.var 1), (E.c (.int 70))]), (E.call m_law_draw [(E.var 1), (E.c (.int 70))]), (E.call m_law_draw [(E.var 1), (E.var 4)])])) (C.seq (C.set 7 (E.tup [(E.call m_law_draw [(E.var 1), (E.c (.int 70))]), (E.call m_law_draw [(E.var 1), (E.c (.int 70))]), (E.call m_law_pick [(E.var 1), (E.frz (N.disp [(E.op O.ix (E.var 6) (E.c (.int 2))), (E.call m_law_draw [(E.var 1), (E.var 4)])]))])])) (C.seq (C.set 8 (E.call m_law_least [(E.var 2), (E.var 6), (E.var 7)])) (C.seq (C.set 9 (E.call m_cheapest [(E.var 2), (E.var 6), (E.var 7)])) (C.seq (C.ite (T.val (E.isN (E.var 8))) (C.seq (C.ite (T.val (E.notN (E.var 9))) (C.ret (E.c (.bl false))) C.skip) C.cnt) C.skip) (C.seq (C.ite (T.or (T.not (T.tru (E.un (F.isi "tuple") (E.var 9)))) (T.or (T.val (E.op O.ne (E.op O.ix (E.var 9) (E.c (.int 0))) (E.var 8))) (T.val (E.op O.ne (E.call m_law_cost [(E.var 2), (E.var 6), (E.var 7), (E.op O.ix (E.var 9) (E.c (.int 1)))]) (E.var 8))))) (C.ret (E.c (.bl false))) C.skip) (C.seq (C.ite (T.val (E.op O.gt (E.blt F.len [(E.frz cp_law1)]) (E.c (.int 0)))) (C.ret (E.c (.bl false))) C.skip) (C.seq (C.set 11 (E.call m_plates_of [(E.var 2), (E.op O.ix (E.var 6) (E.c (.int 2))), (E.op O.ix (E.var 9) (E.c (.int 1)))])) (C.seq (C.ite (T.or (T.val (E.isN (E.var 11))) (T.or (T.val (E.op O.ne (E.op O.ix (E.var 11) (E.op O.sub (E.blt F.len [(E.var 11)]) (E.c (.int 1)))) (E.op O.ix (E.var 7) (E.c (.int 2))))) (T.val (E.op O.ne (E.call m_cost [(E.var 2), (E.var 6), (E.var 7), (E.op O.ix (E.var 9) (E.c (.int 1)))]) (E.var 8))))) (C.ret (E.c (.bl false))) C.skip) (C.seq (C.asg (G.tl [(G.nm 12), (G.nm 13)]) (E.call m_law_walk [(E.var 1), (E.var 2), (E.op O.ix (E.var 6) (E.c (.int 2)))])) (C.seq (C.set 14 (E.tup [(E.call m_law_draw [(E.var 1), (E.c (.int 70))]), (E.call m_law_draw [(E.var 1), (E.c (.int 70))]), (E.var 13)])) (C.ite (T.or (T.val (E.op O.ne (E.call m_cost [(E.var 2), (E.var 6), (E.var 14), (E.var 12)]) (E.call m_law_cost [(E.var 2), (E.var 6), (E.var 14), (E.var 12)]))) (T.val (E.op O.ne (E.blt F.reprO [(E.var 2)]) (E.var 3)))) (C.ret (E.c (.bl false))) C.skip))))))))))))
@[reducible] def st_law_5 : C := (C.for_ (I.rng1 (E.c (.int 3))) (G.nm 5) lp_law2)
@[reducible] def st_law_4 : C := (C.set 4 (E.blt F.len [(E.op O.ix (E.var 2) (E.c (.int 0)))]))
@[reducible] def st_law_3 : C := (C.set 3 (E.blt F.reprO [(E.var 2)]))
@[reducible] def st_law_2 : C := (C.set 2 (E.call m_law_mesh [(E.var 1)]))
@[reducible] def st_law_1 : C := (C.set 1 (E.call m_law_state [(E.var 0)]))
def b_law : C := (C.seq st_law_1 (C.seq st_law_2 (C.seq st_law_3 (C.seq st_law_4 (C.seq st_law_5 (C.ret (E.c (.bl true))))))))
def m_law : Fn := fn 15 1 b_law
end
end W
set_option Elab.async false
set_option linter.all false
set_option maxRecDepth 100000
set_option maxHeartbeats 0
namespace W
open PySem L2 Mi PySem.W
structure Txt (K : Kx) (mg : Str → Option Value) (base : Heap) where
  a_law_state : Addr
  d_law_state : FuncData
  f_law_state : FunD K "_law_state" "_law_state" (defArgs s_law_state) (defBody s_law_state) (defScope s_law_state) [] [] a_law_state d_law_state
  m_law_state : mg "_law_state" = some (.ref a_law_state)
  b_law_state : Binds K d_law_state ["_law_script"] []
  a_law_draw : Addr
  d_law_draw : FuncData
  f_law_draw : FunD K "_law_draw" "_law_draw" (defArgs s_law_draw) (defBody s_law_draw) (defScope s_law_draw) [] [] a_law_draw d_law_draw
  m_law_draw : mg "_law_draw" = some (.ref a_law_draw)
  b_law_draw : Binds K d_law_draw ["_law_state_here", "_law_many"] []
  a_law_mesh : Addr
  d_law_mesh : FuncData
  f_law_mesh : FunD K "_law_mesh" "_law_mesh" (defArgs s_law_mesh) (defBody s_law_mesh) (defScope s_law_mesh) [] [] a_law_mesh d_law_mesh
  m_law_mesh : mg "_law_mesh" = some (.ref a_law_mesh)
  b_law_mesh : Binds K d_law_mesh ["_law_state_here"] []
  a_law_apart : Addr
  d_law_apart : FuncData
  f_law_apart : FunD K "_law_apart" "_law_apart" (defArgs s_law_apart) (defBody s_law_apart) (defScope s_law_apart) [] [] a_law_apart d_law_apart
  m_law_apart : mg "_law_apart" = some (.ref a_law_apart)
  b_law_apart : Binds K d_law_apart ["_law_one", "_law_other"] []
  a_law_middle : Addr
  d_law_middle : FuncData
  f_law_middle : FunD K "_law_middle" "_law_middle" (defArgs s_law_middle) (defBody s_law_middle) (defScope s_law_middle) [] [] a_law_middle d_law_middle
  m_law_middle : mg "_law_middle" = some (.ref a_law_middle)
  b_law_middle : Binds K d_law_middle ["_law_portal"] []
  a_law_least : Addr
  d_law_least : FuncData
  f_law_least : FunD K "_law_least" "_law_least" (defArgs s_law_least) (defBody s_law_least) (defScope s_law_least) [] [] a_law_least d_law_least
  m_law_least : mg "_law_least" = some (.ref a_law_least)
  b_law_least : Binds K d_law_least ["_law_mesh_here", "_law_start", "_law_goal"] []
  a_neighbours : Addr
  d_neighbours : FuncData
  f_neighbours : FunD K "neighbours" "neighbours" (defArgs s_neighbours) (defBody s_neighbours) (defScope s_neighbours) [] [] a_neighbours d_neighbours
  m_neighbours : mg "neighbours" = some (.ref a_neighbours)
  b_neighbours : Binds K d_neighbours ["mesh"] []
  a_next_open : Addr
  d_next_open : FuncData
  f_next_open : FunD K "next_open" "next_open" (defArgs s_next_open) (defBody s_next_open) (defScope s_next_open) [] [] a_next_open d_next_open
  m_next_open : mg "next_open" = some (.ref a_next_open)
  b_next_open : Binds K d_next_open ["waiting"] []
  a_doubled_middle : Addr
  d_doubled_middle : FuncData
  f_doubled_middle : FunD K "doubled_middle" "doubled_middle" (defArgs s_doubled_middle) (defBody s_doubled_middle) (defScope s_doubled_middle) [] [] a_doubled_middle d_doubled_middle
  m_doubled_middle : mg "doubled_middle" = some (.ref a_doubled_middle)
  b_doubled_middle : Binds K d_doubled_middle ["portal"] []
  a_apart : Addr
  d_apart : FuncData
  f_apart : FunD K "apart" "apart" (defArgs s_apart) (defBody s_apart) (defScope s_apart) [] [] a_apart d_apart
  m_apart : mg "apart" = some (.ref a_apart)
  b_apart : Binds K d_apart ["one", "other"] []
  a_cheapest : Addr
  d_cheapest : FuncData
  f_cheapest : FunD K "cheapest" "cheapest" (defArgs s_cheapest) (defBody s_cheapest) (defScope s_cheapest) [] [] a_cheapest d_cheapest
  m_cheapest : mg "cheapest" = some (.ref a_cheapest)
  b_cheapest : Binds K d_cheapest ["mesh", "start", "goal"] []
  a_plates_of : Addr
  d_plates_of : FuncData
  f_plates_of : FunD K "plates_of" "plates_of" (defArgs s_plates_of) (defBody s_plates_of) (defScope s_plates_of) [] [] a_plates_of d_plates_of
  m_plates_of : mg "plates_of" = some (.ref a_plates_of)
  b_plates_of : Binds K d_plates_of ["mesh", "start", "way"] []
  a_law_pick : Addr
  d_law_pick : FuncData
  f_law_pick : FunD K "_law_pick" "_law_pick" (defArgs s_law_pick) (defBody s_law_pick) (defScope s_law_pick) [] [] a_law_pick d_law_pick
  m_law_pick : mg "_law_pick" = some (.ref a_law_pick)
  b_law_pick : Binds K d_law_pick ["_law_state_here", "_law_row"] []
  a_law_walk : Addr
  d_law_walk : FuncData
  f_law_walk : FunD K "_law_walk" "_law_walk" (defArgs s_law_walk) (defBody s_law_walk) (defScope s_law_walk) [] [] a_law_walk d_law_walk
  m_law_walk : mg "_law_walk" = some (.ref a_law_walk)
  b_law_walk : Binds K d_law_walk ["_law_state_here", "_law_mesh_here", "_law_plate"] []
  a_law_cost : Addr
  d_law_cost : FuncData
  f_law_cost : FunD K "_law_cost" "_law_cost" (defArgs s_law_cost) (defBody s_law_cost) (defScope s_law_cost) [] [] a_law_cost d_law_cost
  m_law_cost : mg "_law_cost" = some (.ref a_law_cost)
  b_law_cost : Binds K d_law_cost ["_law_mesh_here", "_law_start", "_law_goal", "_law_way"] []
  a_cost : Addr
  d_cost : FuncData
  f_cost : FunD K "cost" "cost" (defArgs s_cost) (defBody s_cost) (defScope s_cost) [] [] a_cost d_cost
  m_cost : mg "cost" = some (.ref a_cost)
  b_cost : Binds K d_cost ["mesh", "start", "goal", "way"] []
  a_law : Addr
  d_law : FuncData
  f_law : FunD K "law" "law" (defArgs s_law) (defBody s_law) (defScope s_law) [] [] a_law d_law
  m_law : mg "law" = some (.ref a_law)
  b_law : Binds K d_law ["_law_script"] []
  n_abs : mg "abs" = none
  n_int : mg "int" = none
  n_isinstance : mg "isinstance" = none
  n_len : mg "len" = none
  n_min : mg "min" = none
  n_range : mg "range" = none
  n_repr : mg "repr" = none
  n_sorted : mg "sorted" = none
  n_sum : mg "sum" = none
  n_tuple : mg "tuple" = none
section
variable {P : Program} {w : World} {K : Kx} {mg : Str → Option Value} {base : Heap}
theorem ok_law_state (T : Txt K mg base) : FnOk P w K mg base CX0 1 T.a_law_state T.d_law_state ["_law_script"] (spM 1 K m_law_state) := fnD_ok T.f_law_state sc_law_state rfl rfl fun A outer s H Ee hr =>
  (mss_cons (ms_set (i := 1) sc_law_state.nd me_int) (mss_cons (ms_for PassesOwn.never rfl (mi_seq (me_var 0)) seq_noOwn (mg_nm (i := 2) sc_law_state.nd) (mss_one (ms_set (i := 1) sc_law_state.nd (me_op o_mod (me_ty1 f_int1 (by rfl) T.n_int (by decide +kernel) (me_op o_add (me_op o_mul (me_var 1) me_int) (me_var 2))) me_int)))) (mss_one (ms_ret (me_shr (mf_disp (ma_cons (me_shr (mf_lc [2] (own := [("_law_cell", 2)]) rfl sc_law_state.nd (mi_seqC (me_var 0)) (blkOk_by (by kernel_rfl)) rfl (fun _ _ _ _ _ => (mg_nm (i := 2) sc_law_state.nd)) (fun _ _ _ _ _ => mts_nil) (fun _ _ _ _ _ => (me_blt1 f_abs (by rfl) T.n_abs (by decide +kernel) (me_var 2))) (by decide))) (ma_cons (me_op o_add (me_var 1) me_int) ma_nil))))))))
theorem ok_law_draw (T : Txt K mg base) : FnOk P w K mg base CX0 1 T.a_law_draw T.d_law_draw ["_law_state_here", "_law_many"] (spM 2 K m_law_draw) := fnD_ok T.f_law_draw sc_law_draw rfl rfl fun A outer s H Ee hr =>
  (mss_cons (ms_set (i := 2) sc_law_draw.nd (me_ix (me_var 0) me_int)) (mss_cons (ms_whl PassesOwn.never (PW.pt (mw_and (mt_cmp o_gt (me_blt1 f_len (by rfl) T.n_len (by decide +kernel) (me_var 2)) me_int (nomark _)) (mw_and1 (mt_cmp (o_eq hr.units) (me_ix (me_var 2) me_int) me_int (nomark _))))) (mss_one (ms_expr (me_popAt (me_var 2) (ma_cons me_int ma_nil))))) (mss_cons (ms_if (mt_cmp o_gt (me_blt1 f_len (by rfl) T.n_len (by decide +kernel) (me_var 2)) me_int (nomark _)) (mss_cons (ms_set (i := 3) sc_law_draw.nd (me_ix (me_var 2) me_int)) (mss_cons (ms_setIx (me_op o_div (me_var 3) (me_var 1)) (me_var 2) me_int) (mss_one (ms_ret (me_op o_mod (me_ty1 f_int1 (by rfl) T.n_int (by decide +kernel) (me_var 3)) (me_var 1)))))) mss_nil) (mss_cons (ms_set (i := 4) sc_law_draw.nd (me_op o_mod (me_ty1 f_int1 (by rfl) T.n_int (by decide +kernel) (me_op o_add (me_op o_mul (me_ix (me_var 0) me_int) me_int) me_int)) me_int)) (mss_cons (ms_setIx (me_var 4) (me_var 0) me_int) (mss_one (ms_ret (me_op o_mod (me_ty1 f_int1 (by rfl) T.n_int (by decide +kernel) (me_op o_div (me_var 4) me_int)) (me_var 1)))))))))
theorem ok_law_mesh (T : Txt K mg base) : FnOk P w K mg base CX0 2 T.a_law_mesh T.d_law_mesh ["_law_state_here"] (spM 1 K m_law_mesh) := fnD_ok T.f_law_mesh sc_law_mesh rfl rfl fun A outer s H Ee hr =>
  (mss_cons (ms_set (i := 1) sc_law_mesh.nd (me_op o_add me_int (me_call (ok_law_draw T) (hr.mono (by decide)) (by rfl) T.m_law_draw T.f_law_draw.kp T.b_law_draw (ma_cons (me_var 0) (ma_cons me_int ma_nil))))) (mss_cons (ms_frzLc (i := 2) [3] (own := [("_law_k", 3)]) rfl sc_law_mesh.nd rfl rfl (sw_true rfl rfl rfl (by decide +kernel)) (mi_rng1 (by rfl) T.n_range (me_var 1)) (blkOk_by (by kernel_rfl)) rfl (fun _ _ _ _ _ => (mg_nm (i := 3) sc_law_mesh.nd)) (fun _ _ _ _ _ => mts_nil) (fun _ _ _ _ _ => (me_tup (ma_cons me_str (ma_cons (me_var 3) (ma_cons me_int (ma_cons (me_var 3) (ma_cons me_int (ma_cons (me_tup (ma_cons me_int ma_nil)) ma_nil)))))))) (by decide)) (mss_cons (ms_own (i := 4) sc_law_mesh.nd (mf_disp ma_nil)) (mss_cons (ms_for PassesOwn.never rfl (mi_rng1 (by rfl) T.n_range (me_call (ok_law_draw T) (hr.mono (by decide)) (by rfl) T.m_law_draw T.f_law_draw.kp T.b_law_draw (ma_cons (me_var 0) (ma_cons me_int ma_nil)))) rng1_noOwn (mg_nm (i := 3) sc_law_mesh.nd) (mss_cons (ms_set (i := 5) sc_law_mesh.nd (me_call (ok_law_draw T) (hr.mono (by decide)) (by rfl) T.m_law_draw T.f_law_draw.kp T.b_law_draw (ma_cons (me_var 0) (ma_cons (me_var 1) ma_nil)))) (mss_cons (ms_set (i := 6) sc_law_mesh.nd (me_call (ok_law_draw T) (hr.mono (by decide)) (by rfl) T.m_law_draw T.f_law_draw.kp T.b_law_draw (ma_cons (me_var 0) (ma_cons (me_var 1) ma_nil)))) (mss_cons (ms_set (i := 7) sc_law_mesh.nd (me_call (ok_law_draw T) (hr.mono (by decide)) (by rfl) T.m_law_draw T.f_law_draw.kp T.b_law_draw (ma_cons (me_var 0) (ma_cons me_int ma_nil)))) (mss_cons (ms_set (i := 8) sc_law_mesh.nd (me_call (ok_law_draw T) (hr.mono (by decide)) (by rfl) T.m_law_draw T.f_law_draw.kp T.b_law_draw (ma_cons (me_var 0) (ma_cons me_int ma_nil)))) (mss_cons (ms_set (i := 9) sc_law_mesh.nd (me_op o_add me_int (me_call (ok_law_draw T) (hr.mono (by decide)) (by rfl) T.m_law_draw T.f_law_draw.kp T.b_law_draw (ma_cons (me_var 0) (ma_cons me_int ma_nil))))) (mss_cons (ms_set (i := 10) sc_law_mesh.nd (me_call (ok_law_draw T) (hr.mono (by decide)) (by rfl) T.m_law_draw T.f_law_draw.kp T.b_law_draw (ma_cons (me_var 0) (ma_cons me_int ma_nil)))) (mss_one (ms_if (mt_cmp (o_ne hr.units) (me_var 5) (me_var 6) (nomark _)) (mss_one (ms_expr (me_append (me_var 4) (ma_cons (me_tup (ma_cons me_str (ma_cons (me_var 5) (ma_cons (me_var 6) (ma_cons (me_var 7) (ma_cons (me_var 8) (ma_cons (me_op o_add (me_var 7) (me_op o_mul (me_var 10) (me_var 9))) (ma_cons (me_op o_add (me_var 8) (me_op o_mul (me_op o_sub me_int (me_var 10)) (me_var 9))) ma_nil)))))))) ma_nil)))) mss_nil))))))))) (mss_frz 4 (mss_one (ms_ret (me_tup (ma_cons (me_var 2) (ma_cons (me_var 4) ma_nil))))))))))
theorem ok_law_apart (T : Txt K mg base) : FnOk P w K mg base CX0 1 T.a_law_apart T.d_law_apart ["_law_one", "_law_other"] (spM 2 K m_law_apart) := fnD_ok T.f_law_apart sc_law_apart rfl rfl fun A outer s H Ee hr =>
  (mss_one (ms_ret (me_op o_add (me_blt1 f_abs (by rfl) T.n_abs (by decide +kernel) (me_op o_sub (me_ix (me_var 0) me_int) (me_ix (me_var 1) me_int))) (me_blt1 f_abs (by rfl) T.n_abs (by decide +kernel) (me_op o_sub (me_ix (me_var 0) me_int) (me_ix (me_var 1) me_int))))))
theorem ok_law_middle (T : Txt K mg base) : FnOk P w K mg base CX0 1 T.a_law_middle T.d_law_middle ["_law_portal"] (spM 1 K m_law_middle) := fnD_ok T.f_law_middle sc_law_middle rfl rfl fun A outer s H Ee hr =>
  (mss_one (ms_ret (me_tup (ma_cons (me_op o_add (me_ix (me_var 0) me_int) (me_ix (me_var 0) me_int)) (ma_cons (me_op o_add (me_ix (me_var 0) me_int) (me_ix (me_var 0) me_int)) ma_nil)))))
theorem ok_law_least (T : Txt K mg base) : FnOk P w K mg base CX0 2 T.a_law_least T.d_law_least ["_law_mesh_here", "_law_start", "_law_goal"] (spM 3 K m_law_least) := fnD_ok T.f_law_least sc_law_least rfl rfl fun A outer s H Ee hr =>
  (mss_cons (ms_set (i := 3) sc_law_least.nd (me_ix (me_var 0) me_int)) (mss_cons (ms_ownN (i := 4) sc_law_least.nd mn_dnewT) (mss_cons (ms_for PassesOwn.never rfl (mi_rng1 (by rfl) T.n_range (me_blt1 f_len (by rfl) T.n_len (by decide +kernel) (me_var 3))) rng1_noOwn (mg_nm (i := 5) sc_law_least.nd) (mss_one (ms_for PassesOwn.never rfl (mi_seq (me_frz (mf_disp (ma_cons me_int (ma_cons me_int ma_nil))))) seq_noOwn (mg_nm (i := 6) sc_law_least.nd) (mss_one (ms_if (mt_cmp (o_eq hr.units) (me_ix (me_ix (me_var 3) (me_var 5)) (me_var 6)) (me_ix (me_var 1) me_int) (nomark _)) (mss_one (ms_dput hr.units (me_call (ok_law_apart T) (hr.mono (by decide)) (by rfl) T.m_law_apart T.f_law_apart.kp T.b_law_apart (ma_cons (me_tup (ma_cons (me_op o_mul me_int (me_ix (me_var 1) me_int)) (ma_cons (me_op o_mul me_int (me_ix (me_var 1) me_int)) ma_nil))) (ma_cons (me_call (ok_law_middle T) (hr.mono (by decide)) (by rfl) T.m_law_middle T.f_law_middle.kp T.b_law_middle (ma_cons (me_ix (me_var 3) (me_var 5)) ma_nil)) ma_nil))) (me_var 4) (me_tup (ma_cons (me_var 5) (ma_cons (me_ix (me_ix (me_var 3) (me_var 5)) (me_op o_sub me_int (me_var 6))) ma_nil))))) mss_nil))))) (mss_cons (ms_for PassesOwn.never rfl (mi_rng1 (by rfl) T.n_range (me_op o_mul me_int (me_blt1 f_len (by rfl) T.n_len (by decide +kernel) (me_var 3)))) rng1_noOwn (mg_nm (i := 7) sc_law_least.nd) (mss_one (ms_for PassesOwn.never rfl (mi_seq (me_lk 4 (me_frz (mf_sortedD rfl hr.units (by rfl) T.n_sorted (me_var 4))))) seq_noOwn (mg_tp rfl (mgs_cons (mg_nm (i := 8) sc_law_least.nd) (mgs_cons (mg_nm (i := 9) sc_law_least.nd) mgs_nil))) (mss_one (ms_for PassesOwn.never rfl (mi_rng1 (by rfl) T.n_range (me_blt1 f_len (by rfl) T.n_len (by decide +kernel) (me_var 3))) rng1_noOwn (mg_nm (i := 5) sc_law_least.nd) (mss_one (ms_for PassesOwn.never rfl (mi_seq (me_frz (mf_disp (ma_cons me_int (ma_cons me_int ma_nil))))) seq_noOwn (mg_nm (i := 6) sc_law_least.nd) (mss_cons (ms_set (i := 10) sc_law_least.nd (me_op o_add (me_dix hr.units (me_var 4) (me_tup (ma_cons (me_var 8) (ma_cons (me_var 9) ma_nil)))) (me_call (ok_law_apart T) (hr.mono (by decide)) (by rfl) T.m_law_apart T.f_law_apart.kp T.b_law_apart (ma_cons (me_call (ok_law_middle T) (hr.mono (by decide)) (by rfl) T.m_law_middle T.f_law_middle.kp T.b_law_middle (ma_cons (me_ix (me_var 3) (me_var 8)) ma_nil)) (ma_cons (me_call (ok_law_middle T) (hr.mono (by decide)) (by rfl) T.m_law_middle T.f_law_middle.kp T.b_law_middle (ma_cons (me_ix (me_var 3) (me_var 5)) ma_nil)) ma_nil))))) (mss_cons (ms_set (i := 11) sc_law_least.nd (me_tup (ma_cons (me_var 5) (ma_cons (me_ix (me_ix (me_var 3) (me_var 5)) (me_op o_sub me_int (me_var 6))) ma_nil)))) (mss_one (ms_if (PW.pt (mw_and (mt_cmp (o_eq hr.units) (me_ix (me_ix (me_var 3) (me_var 5)) (me_var 6)) (me_var 9) (nomark _)) (mw_and1 (mt_cmp o_gt (me_get2 hr.units (me_var 4) (me_var 11) (me_op o_add (me_var 10) me_int)) (me_var 10) (nomark _))))) (mss_one (ms_dput hr.units (me_var 10) (me_var 4) (me_var 11))) mss_nil))))))))))) (mss_frzD 4 (mss_cons (ms_ownLc (i := 12) [11] (own := [("_law_key", 11)]) rfl sc_law_least.nd rfl rfl (sw_true rfl rfl rfl (by decide +kernel)) (mi_seqC (me_frz (mf_sortedD rfl hr.units (by rfl) T.n_sorted (me_var 4)))) (blkOk_by (by kernel_rfl)) rfl (fun _ _ _ _ _ => (mg_nm (i := 11) sc_law_least.nd)) (fun _ _ _ _ _ => (mts_one (mt_cmp (o_eq hr.units) (me_ix (me_var 11) me_int) (me_ix (me_var 2) me_int) (nomark _)))) (fun _ _ _ _ _ => (me_op o_add (me_dix hr.units (me_var 4) (me_var 11)) (me_call (ok_law_apart T) (hr.mono (by decide)) (by rfl) T.m_law_apart T.f_law_apart.kp T.b_law_apart (ma_cons (me_call (ok_law_middle T) (hr.mono (by decide)) (by rfl) T.m_law_middle T.f_law_middle.kp T.b_law_middle (ma_cons (me_ix (me_var 3) (me_ix (me_var 11) me_int)) ma_nil)) (ma_cons (me_tup (ma_cons (me_op o_mul me_int (me_ix (me_var 2) me_int)) (ma_cons (me_op o_mul me_int (me_ix (me_var 2) me_int)) ma_nil))) ma_nil))))) (by decide)) (mss_cons (ms_if (mt_cmp (o_eq hr.units) (me_ix (me_var 1) me_int) (me_ix (me_var 2) me_int) (nomark _)) (mss_one (ms_expr (me_append (me_var 12) (ma_cons (me_call (ok_law_apart T) (hr.mono (by decide)) (by rfl) T.m_law_apart T.f_law_apart.kp T.b_law_apart (ma_cons (me_tup (ma_cons (me_op o_mul me_int (me_ix (me_var 1) me_int)) (ma_cons (me_op o_mul me_int (me_ix (me_var 1) me_int)) ma_nil))) (ma_cons (me_tup (ma_cons (me_op o_mul me_int (me_ix (me_var 2) me_int)) (ma_cons (me_op o_mul me_int (me_ix (me_var 2) me_int)) ma_nil))) ma_nil))) ma_nil)))) mss_nil) (mss_frz 12 (mss_cons (ms_if (mt_cmp (o_eq hr.units) (me_blt1 f_len (by rfl) T.n_len (by decide +kernel) (me_var 12)) me_int (nomark _)) (mss_one (ms_ret me_non)) mss_nil) (mss_one (ms_ret (me_blt1 (f_minR rfl hr.units) (by rfl) T.n_min (by decide +kernel) (me_var 12)))))))))))))
theorem ok_neighbours (T : Txt K mg base) : FnOk P w K mg base CX0 1 T.a_neighbours T.d_neighbours ["mesh"] (spM 1 K m_neighbours) := gc_ok <| fnD_ok (b := b_neighbours) T.f_neighbours sc_neighbours rfl rfl fun A outer s H Ee hr =>
  (mss_cons (ms_asg (me_var 0) (mg_tp rfl (mgs_cons (mg_nm (i := 1) sc_neighbours.nd) (mgs_cons (mg_nm (i := 2) sc_neighbours.nd) mgs_nil)))) (mss_cons (ms_frzLc (i := 3) [4] (own := [("_", 4)]) rfl sc_neighbours.nd rfl rfl (sw_true rfl rfl rfl (by decide +kernel)) (mi_seqC (me_var 1)) (blkOk_by (by kernel_rfl)) rfl (fun _ _ _ _ _ => (mg_nm (i := 4) sc_neighbours.nd)) (fun _ _ _ _ _ => mts_nil) (fun _ _ _ _ _ => (me_shr (mf_disp ma_nil))) (by decide)) (mss_cons (ms_for PassesOwn.never rfl (mi_rng1 (by rfl) T.n_range (me_blt1 f_len (by rfl) T.n_len (by decide +kernel) (me_var 2))) rng1_noOwn (mg_nm (i := 5) sc_neighbours.nd) (mss_cons (ms_asg (me_ix (me_var 2) (me_var 5)) (mg_tp rfl (mgs_cons (mg_nm (i := 4) sc_neighbours.nd) (mgs_cons (mg_nm (i := 6) sc_neighbours.nd) (mgs_cons (mg_nm (i := 7) sc_neighbours.nd) (mgs_cons (mg_nm (i := 8) sc_neighbours.nd) (mgs_cons (mg_nm (i := 9) sc_neighbours.nd) (mgs_cons (mg_nm (i := 10) sc_neighbours.nd) (mgs_cons (mg_nm (i := 11) sc_neighbours.nd) mgs_nil))))))))) (mss_cons (ms_expr (me_append (me_ix (me_var 3) (me_var 6)) (ma_cons (me_tup (ma_cons (me_var 5) (ma_cons (me_var 7) ma_nil))) ma_nil))) (mss_one (ms_expr (me_append (me_ix (me_var 3) (me_var 7)) (ma_cons (me_tup (ma_cons (me_var 5) (ma_cons (me_var 6) ma_nil))) ma_nil))))))) (mss_one (ms_ret (me_var 3))))))
theorem ok_next_open (T : Txt K mg base) : FnOk P w K mg base CX0 1 T.a_next_open T.d_next_open ["waiting"] (spM 1 K m_next_open) := fnD_ok T.f_next_open sc_next_open rfl rfl fun A outer s H Ee hr =>
  (mss_cons (ms_set (i := 1) sc_next_open.nd me_int) (mss_cons (ms_for PassesOwn.never rfl (mi_rng1 (by rfl) T.n_range (me_blt1 f_len (by rfl) T.n_len (by decide +kernel) (me_var 0))) rng1_noOwn (mg_nm (i := 2) sc_next_open.nd) (mss_one (ms_if (mt_cmp o_lt (me_ix (me_ix (me_var 0) (me_var 2)) me_int) (me_ix (me_ix (me_var 0) (me_var 1)) me_int) (nomark _)) (mss_one (ms_set (i := 1) sc_next_open.nd (me_var 2))) mss_nil))) (mss_one (ms_ret (me_var 1)))))
theorem ok_doubled_middle (T : Txt K mg base) : FnOk P w K mg base CX0 1 T.a_doubled_middle T.d_doubled_middle ["portal"] (spM 1 K m_doubled_middle) := fnD_ok T.f_doubled_middle sc_doubled_middle rfl rfl fun A outer s H Ee hr =>
  (mss_one (ms_ret (me_tup (ma_cons (me_op o_add (me_ix (me_var 0) me_int) (me_ix (me_var 0) me_int)) (ma_cons (me_op o_add (me_ix (me_var 0) me_int) (me_ix (me_var 0) me_int)) ma_nil)))))
theorem ok_apart (T : Txt K mg base) : FnOk P w K mg base CX0 1 T.a_apart T.d_apart ["one", "other"] (spM 2 K m_apart) := fnD_ok T.f_apart sc_apart rfl rfl fun A outer s H Ee hr =>
  (mss_one (ms_ret (me_op o_add (me_blt1 f_abs (by rfl) T.n_abs (by decide +kernel) (me_op o_sub (me_ix (me_var 0) me_int) (me_ix (me_var 1) me_int))) (me_blt1 f_abs (by rfl) T.n_abs (by decide +kernel) (me_op o_sub (me_ix (me_var 0) me_int) (me_ix (me_var 1) me_int))))))
theorem ok_cheapest (T : Txt K mg base) : FnOk P w K mg base CX0 2 T.a_cheapest T.d_cheapest ["mesh", "start", "goal"] (spM 3 K m_cheapest) := fnD_ok T.f_cheapest sc_cheapest rfl rfl fun A outer s H Ee hr =>
  (mss_cons (ms_set (i := 3) sc_cheapest.nd (me_call (ok_neighbours T) (hr.mono (by decide)) (by rfl) T.m_neighbours T.f_neighbours.kp T.b_neighbours (ma_cons (me_var 0) ma_nil))) (mss_cons (ms_set (i := 4) sc_cheapest.nd me_non) (mss_cons (ms_ownN (i := 5) sc_cheapest.nd mn_nnew) (mss_cons (ms_own (i := 6) sc_cheapest.nd (mf_disp (ma_cons (me_tup (ma_cons me_int (ma_cons (me_frz (mf_disp ma_nil)) (ma_cons (me_ix (me_var 1) me_int) (ma_cons (me_tup (ma_cons (me_op o_mul me_int (me_ix (me_var 1) me_int)) (ma_cons (me_op o_mul me_int (me_ix (me_var 1) me_int)) ma_nil))) ma_nil))))) ma_nil))) (mss_cons (ms_set (i := 7) sc_cheapest.nd (me_tup (ma_cons (me_op o_mul me_int (me_ix (me_var 2) me_int)) (ma_cons (me_op o_mul me_int (me_ix (me_var 2) me_int)) ma_nil)))) (mss_cons (ms_whl PassesOwn.never (mt_tru (me_var 6)) (mss_cons (ms_asg (me_popAt (me_var 6) (ma_cons (me_lkL 6 (me_call (ok_next_open T) (hr.mono (by decide)) (by rfl) T.m_next_open T.f_next_open.kp T.b_next_open (ma_cons (me_var 6) ma_nil))) ma_nil)) (mg_tp rfl (mgs_cons (mg_nm (i := 8) sc_cheapest.nd) (mgs_cons (mg_nm (i := 9) sc_cheapest.nd) (mgs_cons (mg_nm (i := 10) sc_cheapest.nd) (mgs_cons (mg_nm (i := 11) sc_cheapest.nd) mgs_nil)))))) (mss_cons (ms_if (PW.pt (mw_and (mt_notN (me_var 4)) (mw_and1 (mt_cmp o_ge (me_var 8) (me_ix (me_var 4) me_int) (nomark _))))) (mss_one (ms_ret (me_var 4))) mss_nil) (mss_cons (ms_if (mt_nin hr.units (me_tup (ma_cons (me_var 10) (ma_cons (me_var 11) ma_nil))) (me_var 5)) (mss_one ms_cnt) mss_nil) (mss_cons (ms_nput hr.units me_bl (me_var 5) (me_tup (ma_cons (me_var 10) (ma_cons (me_var 11) ma_nil)))) (mss_cons (ms_if (PW.pt (mw_and (mt_cmp (o_eq hr.units) (me_var 10) (me_ix (me_var 2) me_int) (nomark _)) (mw_and1 (PW.pt (mw_or (mt_isN (me_var 4)) (mw_or1 (mt_cmp o_lt (me_op o_add (me_var 8) (me_call (ok_apart T) (hr.mono (by decide)) (by rfl) T.m_apart T.f_apart.kp T.b_apart (ma_cons (me_var 11) (ma_cons (me_var 7) ma_nil)))) (me_ix (me_var 4) me_int) (nomark _)))))))) (mss_one (ms_set (i := 4) sc_cheapest.nd (me_tup (ma_cons (me_op o_add (me_var 8) (me_call (ok_apart T) (hr.mono (by decide)) (by rfl) T.m_apart T.f_apart.kp T.b_apart (ma_cons (me_var 11) (ma_cons (me_var 7) ma_nil)))) (ma_cons (me_var 9) ma_nil))))) mss_nil) (mss_one (ms_for PassesOwn.never rfl (mi_seq (me_ix (me_var 3) (me_var 10))) seq_noOwn (mg_tp rfl (mgs_cons (mg_nm (i := 12) sc_cheapest.nd) (mgs_cons (mg_nm (i := 13) sc_cheapest.nd) mgs_nil))) (mss_cons (ms_set (i := 14) sc_cheapest.nd (me_call (ok_doubled_middle T) (hr.mono (by decide)) (by rfl) T.m_doubled_middle T.f_doubled_middle.kp T.b_doubled_middle (ma_cons (me_ix (me_ix (me_var 0) me_int) (me_var 12)) ma_nil))) (mss_one (ms_if (PW.pt (mw_and (mt_nnotIn hr.units (me_tup (ma_cons (me_var 13) (ma_cons (me_var 14) ma_nil))) (me_var 5)) (mw_and1 (mt_cmp (o_ne hr.units) (me_frz (mf_slice (me_var 9) (mo_some (me_neg me_int)) mo_none)) (me_frz (mf_disp (ma_cons (me_var 12) ma_nil))) (nomark _))))) (mss_one (ms_expr (me_append (me_var 6) (ma_cons (me_tup (ma_cons (me_op o_add (me_var 8) (me_call (ok_apart T) (hr.mono (by decide)) (by rfl) T.m_apart T.f_apart.kp T.b_apart (ma_cons (me_var 11) (ma_cons (me_var 14) ma_nil)))) (ma_cons (me_frz (mf_cat (me_var 9) (me_frz (mf_disp (ma_cons (me_var 12) ma_nil))))) (ma_cons (me_var 13) (ma_cons (me_var 14) ma_nil))))) ma_nil)))) mss_nil))))))))))) (mss_one (ms_ret (me_var 4)))))))))
theorem ok_plates_of (T : Txt K mg base) : FnOk P w K mg base CX0 1 T.a_plates_of T.d_plates_of ["mesh", "start", "way"] (spM 3 K m_plates_of) := fnD_ok T.f_plates_of sc_plates_of rfl rfl fun A outer s H Ee hr =>
  (mss_cons (ms_set (i := 3) sc_plates_of.nd (me_ix (me_var 0) me_int)) (mss_cons (ms_own (i := 4) sc_plates_of.nd (mf_disp (ma_cons (me_var 1) ma_nil))) (mss_cons (ms_for PassesOwn.never rfl (mi_seq (me_var 2)) seq_noOwn (mg_nm (i := 5) sc_plates_of.nd) (mss_cons (ms_asg (me_cutT (me_ix (me_var 3) (me_var 5)) (mo_some me_int) (mo_some me_int)) (mg_tp rfl (mgs_cons (mg_nm (i := 6) sc_plates_of.nd) (mgs_cons (mg_nm (i := 7) sc_plates_of.nd) mgs_nil)))) (mss_one (ms_if (mt_cmp (o_eq hr.units) (me_ix (me_var 4) (me_neg me_int)) (me_var 6) (nomark _)) (mss_one (ms_expr (me_append (me_var 4) (ma_cons (me_var 7) ma_nil)))) (mss_one (ms_if (mt_cmp (o_eq hr.units) (me_ix (me_var 4) (me_neg me_int)) (me_var 7) (nomark _)) (mss_one (ms_expr (me_append (me_var 4) (ma_cons (me_var 6) ma_nil)))) (mss_one (ms_ret me_non)))))))) (mss_one (ms_ret (me_var 4))))))
theorem ok_law_pick (T : Txt K mg base) : FnOk P w K mg base CX0 2 T.a_law_pick T.d_law_pick ["_law_state_here", "_law_row"] (spM 2 K m_law_pick) := fnD_ok T.f_law_pick sc_law_pick rfl rfl fun A outer s H Ee hr =>
  (mss_one (ms_ret (me_ix (me_var 1) (me_call (ok_law_draw T) (hr.mono (by decide)) (by rfl) T.m_law_draw T.f_law_draw.kp T.b_law_draw (ma_cons (me_var 0) (ma_cons (me_blt1 f_len (by rfl) T.n_len (by decide +kernel) (me_var 1)) ma_nil))))))
theorem ok_law_walk (T : Txt K mg base) : FnOk P w K mg base CX0 3 T.a_law_walk T.d_law_walk ["_law_state_here", "_law_mesh_here", "_law_plate"] (spM 3 K m_law_walk) := fnD_ok T.f_law_walk sc_law_walk rfl rfl fun A outer s H Ee hr =>
  (mss_cons (ms_own (i := 3) sc_law_walk.nd (mf_disp ma_nil)) (mss_cons (ms_for PassesOwn.never rfl (mi_rng1 (by rfl) T.n_range (me_call (ok_law_draw T) (hr.mono (by decide)) (by rfl) T.m_law_draw T.f_law_draw.kp T.b_law_draw (ma_cons (me_var 0) (ma_cons me_int ma_nil)))) rng1_noOwn (mg_nm (i := 4) sc_law_walk.nd) (mss_cons (ms_frzLc (i := 5) [6] (own := [("_law_k", 6)]) rfl sc_law_walk.nd rfl rfl (sw_true rfl rfl rfl (by decide +kernel)) (mi_rng1 (by rfl) T.n_range (me_blt1 f_len (by rfl) T.n_len (by decide +kernel) (me_ix (me_var 1) me_int))) (blkOk_by (by kernel_rfl)) rfl (fun _ _ _ _ _ => (mg_nm (i := 6) sc_law_walk.nd)) (fun _ _ _ _ _ => (mts_one (mt_cmp o_in (me_var 2) (me_cutT (me_ix (me_ix (me_var 1) me_int) (me_var 6)) (mo_some me_int) (mo_some me_int)) (by rfl)))) (fun _ _ _ _ _ => (me_var 6)) (by decide)) (mss_one (ms_if (mt_cmp o_gt (me_blt1 f_len (by rfl) T.n_len (by decide +kernel) (me_var 5)) me_int (nomark _)) (mss_cons (ms_set (i := 6) sc_law_walk.nd (me_call (ok_law_pick T) (hr.mono (by decide)) (by rfl) T.m_law_pick T.f_law_pick.kp T.b_law_pick (ma_cons (me_var 0) (ma_cons (me_var 5) ma_nil)))) (mss_cons (ms_expr (me_append (me_var 3) (ma_cons (me_var 6) ma_nil))) (mss_one (ms_set (i := 2) sc_law_walk.nd (me_ix (me_ix (me_ix (me_var 1) me_int) (me_var 6)) (me_op o_add me_int (me_ty1 f_int1 (by rfl) T.n_int (by decide +kernel) (me_cmp (o_eq hr.units) (me_ix (me_ix (me_ix (me_var 1) me_int) (me_var 6)) me_int) (me_var 2) (nomark _))))))))) mss_nil)))) (mss_frz 3 (mss_one (ms_ret (me_frz (mf_disp (ma_cons (me_var 3) (ma_cons (me_var 2) ma_nil)))))))))
theorem ok_law_cost (T : Txt K mg base) : FnOk P w K mg base CX0 2 T.a_law_cost T.d_law_cost ["_law_mesh_here", "_law_start", "_law_goal", "_law_way"] (spM 4 K m_law_cost) := fnD_ok T.f_law_cost sc_law_cost rfl rfl fun A outer s H Ee hr =>
  (mss_cons (ms_set (i := 4) sc_law_cost.nd (me_tup (ma_cons (me_op o_mul me_int (me_ix (me_var 1) me_int)) (ma_cons (me_op o_mul me_int (me_ix (me_var 1) me_int)) ma_nil)))) (mss_cons (ms_set (i := 5) sc_law_cost.nd me_int) (mss_cons (ms_for PassesOwn.never rfl (mi_seq (me_var 3)) seq_noOwn (mg_nm (i := 6) sc_law_cost.nd) (mss_cons (ms_set (i := 7) sc_law_cost.nd (me_call (ok_law_middle T) (hr.mono (by decide)) (by rfl) T.m_law_middle T.f_law_middle.kp T.b_law_middle (ma_cons (me_ix (me_ix (me_var 0) me_int) (me_var 6)) ma_nil))) (mss_cons (ms_set (i := 5) sc_law_cost.nd (me_op o_add (me_var 5) (me_call (ok_law_apart T) (hr.mono (by decide)) (by rfl) T.m_law_apart T.f_law_apart.kp T.b_law_apart (ma_cons (me_var 4) (ma_cons (me_var 7) ma_nil))))) (mss_one (ms_set (i := 4) sc_law_cost.nd (me_var 7)))))) (mss_one (ms_ret (me_op o_add (me_var 5) (me_call (ok_law_apart T) (hr.mono (by decide)) (by rfl) T.m_law_apart T.f_law_apart.kp T.b_law_apart (ma_cons (me_var 4) (ma_cons (me_tup (ma_cons (me_op o_mul me_int (me_ix (me_var 2) me_int)) (ma_cons (me_op o_mul me_int (me_ix (me_var 2) me_int)) ma_nil))) ma_nil)))))))))
theorem ok_cost (T : Txt K mg base) : FnOk P w K mg base CX0 2 T.a_cost T.d_cost ["mesh", "start", "goal", "way"] (spM 4 K m_cost) := fnD_ok T.f_cost sc_cost rfl rfl fun A outer s H Ee hr =>
  (mss_cons (ms_own (i := 4) sc_cost.nd (mf_disp (ma_cons (me_tup (ma_cons (me_op o_mul me_int (me_ix (me_var 1) me_int)) (ma_cons (me_op o_mul me_int (me_ix (me_var 1) me_int)) ma_nil))) ma_nil))) (mss_cons (ms_own (i := 4) sc_cost.nd (mf_cat (me_var 4) (me_frz (mf_lc [5] (own := [("at", 5)]) rfl sc_cost.nd (mi_seqC (me_var 3)) (blkOk_by (by kernel_rfl)) rfl (fun _ _ _ _ _ => (mg_nm (i := 5) sc_cost.nd)) (fun _ _ _ _ _ => mts_nil) (fun _ _ _ _ _ => (me_call (ok_doubled_middle T) (hr.mono (by decide)) (by rfl) T.m_doubled_middle T.f_doubled_middle.kp T.b_doubled_middle (ma_cons (me_ix (me_ix (me_var 0) me_int) (me_var 5)) ma_nil))) (by decide))))) (mss_cons (ms_expr (me_append (me_var 4) (ma_cons (me_tup (ma_cons (me_op o_mul me_int (me_ix (me_var 2) me_int)) (ma_cons (me_op o_mul me_int (me_ix (me_var 2) me_int)) ma_nil))) ma_nil))) (mss_frz 4 (mss_one (ms_ret (me_blt1 (f_sum rfl) (by rfl) T.n_sum (by decide +kernel) (me_frz (mf_lc [5] (own := [("at", 5)]) rfl sc_cost.nd (mi_rng1 (by rfl) T.n_range (me_op o_sub (me_blt1 f_len (by rfl) T.n_len (by decide +kernel) (me_var 4)) me_int)) (blkOk_by (by kernel_rfl)) rfl (fun _ _ _ _ _ => (mg_nm (i := 5) sc_cost.nd)) (fun _ _ _ _ _ => mts_nil) (fun _ _ _ _ _ => (me_call (ok_apart T) (hr.mono (by decide)) (by rfl) T.m_apart T.f_apart.kp T.b_apart (ma_cons (me_ix (me_var 4) (me_var 5)) (ma_cons (me_ix (me_var 4) (me_op o_add (me_var 5) me_int)) ma_nil)))) (by decide))))))))))
theorem ok_law (T : Txt K mg base) : GOk P w K mg base 4 T.a_law T.d_law ["_law_script"] (spM 1 K m_law) := fnD_gok T.f_law sc_law rfl rfl fun A outer s H Ee gA hr =>
  (mss_cons (ms_set (i := 1) sc_law.nd (me_call (ok_law_state T) (hr.mono (by decide)) (by rfl) T.m_law_state T.f_law_state.kp T.b_law_state (ma_cons (me_var 0) ma_nil))) (mss_cons (ms_set (i := 2) sc_law.nd (me_call (ok_law_mesh T) (hr.mono (by decide)) (by rfl) T.m_law_mesh T.f_law_mesh.kp T.b_law_mesh (ma_cons (me_var 1) ma_nil))) (mss_cons (ms_set (i := 3) sc_law.nd (me_blt1 (f_reprO hr.units gA) (by rfl) T.n_repr (by decide +kernel) (me_var 2))) (mss_cons (ms_set (i := 4) sc_law.nd (me_blt1 f_len (by rfl) T.n_len (by decide +kernel) (me_ix (me_var 2) me_int))) (mss_cons (ms_for PassesOwn.never rfl (mi_rng1 (by rfl) T.n_range me_int) rng1_noOwn (mg_nm (i := 5) sc_law.nd) (mss_cons (ms_set (i := 6) sc_law.nd (me_tup (ma_cons (me_call (ok_law_draw T) (hr.mono (by decide)) (by rfl) T.m_law_draw T.f_law_draw.kp T.b_law_draw (ma_cons (me_var 1) (ma_cons me_int ma_nil))) (ma_cons (me_call (ok_law_draw T) (hr.mono (by decide)) (by rfl) T.m_law_draw T.f_law_draw.kp T.b_law_draw (ma_cons (me_var 1) (ma_cons me_int ma_nil))) (ma_cons (me_call (ok_law_draw T) (hr.mono (by decide)) (by rfl) T.m_law_draw T.f_law_draw.kp T.b_law_draw (ma_cons (me_var 1) (ma_cons (me_var 4) ma_nil))) ma_nil))))) (mss_cons (ms_set (i := 7) sc_law.nd (me_tup (ma_cons (me_call (ok_law_draw T) (hr.mono (by decide)) (by rfl) T.m_law_draw T.f_law_draw.kp T.b_law_draw (ma_cons (me_var 1) (ma_cons me_int ma_nil))) (ma_cons (me_call (ok_law_draw T) (hr.mono (by decide)) (by rfl) T.m_law_draw T.f_law_draw.kp T.b_law_draw (ma_cons (me_var 1) (ma_cons me_int ma_nil))) (ma_cons (me_call (ok_law_pick T) (hr.mono (by decide)) (by rfl) T.m_law_pick T.f_law_pick.kp T.b_law_pick (ma_cons (me_var 1) (ma_cons (me_frz (mf_disp (ma_cons (me_ix (me_var 6) me_int) (ma_cons (me_call (ok_law_draw T) (hr.mono (by decide)) (by rfl) T.m_law_draw T.f_law_draw.kp T.b_law_draw (ma_cons (me_var 1) (ma_cons (me_var 4) ma_nil))) ma_nil)))) ma_nil))) ma_nil))))) (mss_cons (ms_set (i := 8) sc_law.nd (me_call (ok_law_least T) (hr.mono (by decide)) (by rfl) T.m_law_least T.f_law_least.kp T.b_law_least (ma_cons (me_var 2) (ma_cons (me_var 6) (ma_cons (me_var 7) ma_nil))))) (mss_cons (ms_set (i := 9) sc_law.nd (me_call (ok_cheapest T) (hr.mono (by decide)) (by rfl) T.m_cheapest T.f_cheapest.kp T.b_cheapest (ma_cons (me_var 2) (ma_cons (me_var 6) (ma_cons (me_var 7) ma_nil))))) (mss_cons (ms_if (mt_isN (me_var 8)) (mss_cons (ms_if (mt_notN (me_var 9)) (mss_one (ms_ret me_bl)) mss_nil) (mss_one ms_cnt)) mss_nil) (mss_cons (ms_if (PW.pt (mw_or (mt_not (mt_tru (me_isi (by rfl) T.n_isinstance (by rfl) T.n_tuple (by decide +kernel) (me_var 9)))) (mw_or (mt_cmp (o_ne hr.units) (me_ix (me_var 9) me_int) (me_var 8) (nomark _)) (mw_or1 (mt_cmp (o_ne hr.units) (me_call (ok_law_cost T) (hr.mono (by decide)) (by rfl) T.m_law_cost T.f_law_cost.kp T.b_law_cost (ma_cons (me_var 2) (ma_cons (me_var 6) (ma_cons (me_var 7) (ma_cons (me_ix (me_var 9) me_int) ma_nil))))) (me_var 8) (nomark _)))))) (mss_one (ms_ret me_bl)) mss_nil) (mss_cons (ms_if (mt_cmp o_gt (me_blt1 f_len (by rfl) T.n_len (by decide +kernel) (me_frz (mf_lc [10] (own := [("_law_k", 10)]) rfl sc_law.nd (mi_rng1 (by rfl) T.n_range (me_op o_sub (me_blt1 f_len (by rfl) T.n_len (by decide +kernel) (me_ix (me_var 9) me_int)) me_int)) (blkOk_by (by kernel_rfl)) rfl (fun _ _ _ _ _ => (mg_nm (i := 10) sc_law.nd)) (fun _ _ _ _ _ => (mts_one (mt_cmp (o_eq hr.units) (me_ix (me_ix (me_var 9) me_int) (me_var 10)) (me_ix (me_ix (me_var 9) me_int) (me_op o_add (me_var 10) me_int)) (nomark _)))) (fun _ _ _ _ _ => (me_var 10)) (by decide)))) me_int (nomark _)) (mss_one (ms_ret me_bl)) mss_nil) (mss_cons (ms_set (i := 11) sc_law.nd (me_call (ok_plates_of T) (hr.mono (by decide)) (by rfl) T.m_plates_of T.f_plates_of.kp T.b_plates_of (ma_cons (me_var 2) (ma_cons (me_ix (me_var 6) me_int) (ma_cons (me_ix (me_var 9) me_int) ma_nil))))) (mss_cons (ms_if (PW.pt (mw_or (mt_isN (me_var 11)) (mw_or (mt_cmp (o_ne hr.units) (me_ix (me_var 11) (me_op o_sub (me_blt1 f_len (by rfl) T.n_len (by decide +kernel) (me_var 11)) me_int)) (me_ix (me_var 7) me_int) (nomark _)) (mw_or1 (mt_cmp (o_ne hr.units) (me_call (ok_cost T) (hr.mono (by decide)) (by rfl) T.m_cost T.f_cost.kp T.b_cost (ma_cons (me_var 2) (ma_cons (me_var 6) (ma_cons (me_var 7) (ma_cons (me_ix (me_var 9) me_int) ma_nil))))) (me_var 8) (nomark _)))))) (mss_one (ms_ret me_bl)) mss_nil) (mss_cons (ms_asg (me_call (ok_law_walk T) (hr.mono (by decide)) (by rfl) T.m_law_walk T.f_law_walk.kp T.b_law_walk (ma_cons (me_var 1) (ma_cons (me_var 2) (ma_cons (me_ix (me_var 6) me_int) ma_nil)))) (mg_tl rfl (mgs_cons (mg_nm (i := 12) sc_law.nd) (mgs_cons (mg_nm (i := 13) sc_law.nd) mgs_nil)))) (mss_cons (ms_set (i := 14) sc_law.nd (me_tup (ma_cons (me_call (ok_law_draw T) (hr.mono (by decide)) (by rfl) T.m_law_draw T.f_law_draw.kp T.b_law_draw (ma_cons (me_var 1) (ma_cons me_int ma_nil))) (ma_cons (me_call (ok_law_draw T) (hr.mono (by decide)) (by rfl) T.m_law_draw T.f_law_draw.kp T.b_law_draw (ma_cons (me_var 1) (ma_cons me_int ma_nil))) (ma_cons (me_var 13) ma_nil))))) (mss_one (ms_if (PW.pt (mw_or (mt_cmp (o_ne hr.units) (me_call (ok_cost T) (hr.mono (by decide)) (by rfl) T.m_cost T.f_cost.kp T.b_cost (ma_cons (me_var 2) (ma_cons (me_var 6) (ma_cons (me_var 14) (ma_cons (me_var 12) ma_nil))))) (me_call (ok_law_cost T) (hr.mono (by decide)) (by rfl) T.m_law_cost T.f_law_cost.kp T.b_law_cost (ma_cons (me_var 2) (ma_cons (me_var 6) (ma_cons (me_var 14) (ma_cons (me_var 12) ma_nil))))) (nomark _)) (mw_or1 (mt_cmp (o_ne hr.units) (me_blt1 (f_reprO hr.units gA) (by rfl) T.n_repr (by decide +kernel) (me_var 2)) (me_var 3) (nomark _))))) (mss_one (ms_ret me_bl)) mss_nil)))))))))))))) (mss_one (ms_ret me_bl)))))))
end
set_option maxHeartbeats 0 in
theorem facts {P : Program} {w : World} {K : PySem.W.Frag} {h : Heap} {mg : Str → Option Value} {f : Addr} (X : K.In h) (G : h.Ns mainGlobals mg) (hfa : mg "law" = some (.ref f)) (c : He.SaysX fa_ fn_ [] (tf_.map Prod.fst) ex_ w h K) :
    ∃ (K : PySem.W.Frag) (fd : FuncData) (cs : List Cs) (cl : List (Str × Addr)), K.In h ∧ CsOk K h cs ∧ (∀ (s : Shared) (u : Value), BindsTo s fd ⟨[u], []⟩ [("_law_script", u)]) ∧ ∀ base : Heap, K.In base → base.Ns mainGlobals mg → (∀ z ∈ cs, LamX.TabB base mg z.c z.p) → GOk P w K mg base 4 f fd ["_law_script"] (spM 1 ⟨K, ⟨tbs cs, cl⟩⟩ m_law) := by
  have cd := c.t.d
  obtain ⟨fd0, F0⟩ := cd.def_ 0 (d := D_law_state) rfl
  obtain ⟨fd1, F1⟩ := cd.def_ 1 (d := D_law_draw) rfl
  obtain ⟨fd2, F2⟩ := cd.def_ 2 (d := D_law_mesh) rfl
  obtain ⟨fd3, F3⟩ := cd.def_ 3 (d := D_law_apart) rfl
  obtain ⟨fd4, F4⟩ := cd.def_ 4 (d := D_law_middle) rfl
  obtain ⟨fd5, F5⟩ := cd.def_ 5 (d := D_law_least) rfl
  obtain ⟨fd6, F6⟩ := cd.def_ 6 (d := D_neighbours) rfl
  obtain ⟨fd7, F7⟩ := cd.def_ 7 (d := D_next_open) rfl
  obtain ⟨fd8, F8⟩ := cd.def_ 8 (d := D_doubled_middle) rfl
  obtain ⟨fd9, F9⟩ := cd.def_ 9 (d := D_apart) rfl
  obtain ⟨fd10, F10⟩ := cd.def_ 10 (d := D_cheapest) rfl
  obtain ⟨fd11, F11⟩ := cd.def_ 11 (d := D_plates_of) rfl
  obtain ⟨fd12, F12⟩ := cd.def_ 12 (d := D_law_pick) rfl
  obtain ⟨fd13, F13⟩ := cd.def_ 13 (d := D_law_walk) rfl
  obtain ⟨fd14, F14⟩ := cd.def_ 14 (d := D_law_cost) rfl
  obtain ⟨fd15, F15⟩ := cd.def_ 15 (d := D_cost) rfl
  obtain ⟨fd16, F16⟩ := cd.def_ 16 (d := D_law) rfl
  have e := hfa.symm.trans (He.glo_ok X G (cd.fact 16 (f := .glo "law") rfl))
  cases e
  have hb := F16.bindsA (ps := ["_law_script"]) fun _ _ _ _ _ _ us hl => match us, hl with | [_], _ => rfl
  refine ⟨K, fd16, csD K tf_, [], X, csD_ok X c ?_, fun s v => hb s [v] rfl, fun base _ _ hT => ?_⟩
  · intro z hz y hy e
    have h1 := List.all_eq_true.mp (List.all_eq_true.mp c.more z hz) y hy
    rw [Bool.or_eq_true] at h1
    rcases h1 with h1 | h1
    · rw [decide_eq_true e] at h1
      cases h1
    · exact of_decide_eq_true h1
  let T : Txt ⟨K, ⟨tbs (csD K tf_), []⟩⟩ mg base := {
    a_law_state := _, d_law_state := _, f_law_state := F0,
    m_law_state := He.glo_ok X G (cd.fact 0 (f := .glo "_law_state") rfl),
    b_law_state := F0.bindsN (ps := ["_law_script"]) fun _ _ _ _ _ _ us hl => match us, hl with | [_], _ => rfl,
    a_law_draw := _, d_law_draw := _, f_law_draw := F1,
    m_law_draw := He.glo_ok X G (cd.fact 1 (f := .glo "_law_draw") rfl),
    b_law_draw := F1.bindsN (ps := ["_law_state_here", "_law_many"]) fun _ _ _ _ _ _ us hl => match us, hl with | [_, _], _ => rfl,
    a_law_mesh := _, d_law_mesh := _, f_law_mesh := F2,
    m_law_mesh := He.glo_ok X G (cd.fact 2 (f := .glo "_law_mesh") rfl),
    b_law_mesh := F2.bindsN (ps := ["_law_state_here"]) fun _ _ _ _ _ _ us hl => match us, hl with | [_], _ => rfl,
    a_law_apart := _, d_law_apart := _, f_law_apart := F3,
    m_law_apart := He.glo_ok X G (cd.fact 3 (f := .glo "_law_apart") rfl),
    b_law_apart := F3.bindsN (ps := ["_law_one", "_law_other"]) fun _ _ _ _ _ _ us hl => match us, hl with | [_, _], _ => rfl,
    a_law_middle := _, d_law_middle := _, f_law_middle := F4,
    m_law_middle := He.glo_ok X G (cd.fact 4 (f := .glo "_law_middle") rfl),
    b_law_middle := F4.bindsN (ps := ["_law_portal"]) fun _ _ _ _ _ _ us hl => match us, hl with | [_], _ => rfl,
    a_law_least := _, d_law_least := _, f_law_least := F5,
    m_law_least := He.glo_ok X G (cd.fact 5 (f := .glo "_law_least") rfl),
    b_law_least := F5.bindsN (ps := ["_law_mesh_here", "_law_start", "_law_goal"]) fun _ _ _ _ _ _ us hl => match us, hl with | [_, _, _], _ => rfl,
    a_neighbours := _, d_neighbours := _, f_neighbours := F6,
    m_neighbours := He.glo_ok X G (cd.fact 6 (f := .glo "neighbours") rfl),
    b_neighbours := F6.bindsN (ps := ["mesh"]) fun _ _ _ _ _ _ us hl => match us, hl with | [_], _ => rfl,
    a_next_open := _, d_next_open := _, f_next_open := F7,
    m_next_open := He.glo_ok X G (cd.fact 7 (f := .glo "next_open") rfl),
    b_next_open := F7.bindsN (ps := ["waiting"]) fun _ _ _ _ _ _ us hl => match us, hl with | [_], _ => rfl,
    a_doubled_middle := _, d_doubled_middle := _, f_doubled_middle := F8,
    m_doubled_middle := He.glo_ok X G (cd.fact 8 (f := .glo "doubled_middle") rfl),
    b_doubled_middle := F8.bindsN (ps := ["portal"]) fun _ _ _ _ _ _ us hl => match us, hl with | [_], _ => rfl,
    a_apart := _, d_apart := _, f_apart := F9,
    m_apart := He.glo_ok X G (cd.fact 9 (f := .glo "apart") rfl),
    b_apart := F9.bindsN (ps := ["one", "other"]) fun _ _ _ _ _ _ us hl => match us, hl with | [_, _], _ => rfl,
    a_cheapest := _, d_cheapest := _, f_cheapest := F10,
    m_cheapest := He.glo_ok X G (cd.fact 10 (f := .glo "cheapest") rfl),
    b_cheapest := F10.bindsN (ps := ["mesh", "start", "goal"]) fun _ _ _ _ _ _ us hl => match us, hl with | [_, _, _], _ => rfl,
    a_plates_of := _, d_plates_of := _, f_plates_of := F11,
    m_plates_of := He.glo_ok X G (cd.fact 11 (f := .glo "plates_of") rfl),
    b_plates_of := F11.bindsN (ps := ["mesh", "start", "way"]) fun _ _ _ _ _ _ us hl => match us, hl with | [_, _, _], _ => rfl,
    a_law_pick := _, d_law_pick := _, f_law_pick := F12,
    m_law_pick := He.glo_ok X G (cd.fact 12 (f := .glo "_law_pick") rfl),
    b_law_pick := F12.bindsN (ps := ["_law_state_here", "_law_row"]) fun _ _ _ _ _ _ us hl => match us, hl with | [_, _], _ => rfl,
    a_law_walk := _, d_law_walk := _, f_law_walk := F13,
    m_law_walk := He.glo_ok X G (cd.fact 13 (f := .glo "_law_walk") rfl),
    b_law_walk := F13.bindsN (ps := ["_law_state_here", "_law_mesh_here", "_law_plate"]) fun _ _ _ _ _ _ us hl => match us, hl with | [_, _, _], _ => rfl,
    a_law_cost := _, d_law_cost := _, f_law_cost := F14,
    m_law_cost := He.glo_ok X G (cd.fact 14 (f := .glo "_law_cost") rfl),
    b_law_cost := F14.bindsN (ps := ["_law_mesh_here", "_law_start", "_law_goal", "_law_way"]) fun _ _ _ _ _ _ us hl => match us, hl with | [_, _, _, _], _ => rfl,
    a_cost := _, d_cost := _, f_cost := F15,
    m_cost := He.glo_ok X G (cd.fact 15 (f := .glo "cost") rfl),
    b_cost := F15.bindsN (ps := ["mesh", "start", "goal", "way"]) fun _ _ _ _ _ _ us hl => match us, hl with | [_, _, _, _], _ => rfl,
    a_law := _, d_law := _, f_law := F16,
    m_law := He.glo_ok X G (cd.fact 16 (f := .glo "law") rfl),
    b_law := F16.bindsN (ps := ["_law_script"]) fun _ _ _ _ _ _ us hl => match us, hl with | [_], _ => rfl,
    n_abs := He.free_ok X G (cd.fact 17 (f := .free "abs") rfl),
    n_int := He.free_ok X G (cd.fact 18 (f := .free "int") rfl),
    n_isinstance := He.free_ok X G (cd.fact 19 (f := .free "isinstance") rfl),
    n_len := He.free_ok X G (cd.fact 20 (f := .free "len") rfl),
    n_min := He.free_ok X G (cd.fact 21 (f := .free "min") rfl),
    n_range := He.free_ok X G (cd.fact 22 (f := .free "range") rfl),
    n_repr := He.free_ok X G (cd.fact 23 (f := .free "repr") rfl),
    n_sorted := He.free_ok X G (cd.fact 24 (f := .free "sorted") rfl),
    n_sum := He.free_ok X G (cd.fact 25 (f := .free "sum") rfl),
    n_tuple := He.free_ok X G (cd.fact 26 (f := .free "tuple") rfl) }
  exact ok_law T
end W
set_option Elab.async false
set_option linter.all false
set_option maxRecDepth 100000
set_option maxHeartbeats 1000000
set_option synthInstance.maxSize 2000
namespace W
open PySem L2 Mi
theorem q_law_draw {s : DS} {many : Int} (tl : List D) {r : Int × DS} (hr : Pl.draw s many = some r) : m_law_draw [.ref 1, .int many] (stT s tl) = some (.int r.1, stT r.2 tl) := Dr.q_draw tl hr
def p_law_mesh  (s : DS) : Option (((List (Unit × Int × Int × Int × Int × Int)) × (List (Unit × Int × Int × Int × Int × Int × Int))) × DS) :=
  (Pl.draw s (9 : Int)).bind fun t1 =>
  (some (((1 : Int) + t1.1))).bind fun v_many2 =>
  (Pl.rngO 0 v_many2).bind fun t3 =>
  (Pl.comp (fun (x4 : Int) => (some true)) (fun (x4 : Int) => (some ((), x4, (0 : Int), x4, (0 : Int), ((1 : Int))))) t3).bind fun t5 =>
  (Pl.draw t1.2 (15 : Int)).bind fun t6 =>
  (Pl.rngO 0 t6.1).bind fun t7 =>
  (Pl.forN (fun (x16 : Int) (s8 : (List (Unit × Int × Int × Int × Int × Int × Int)) × DS) =>
  (Pl.draw s8.2 v_many2).bind fun t17 =>
  (Pl.draw t17.2 v_many2).bind fun t18 =>
  (Pl.draw t18.2 (60 : Int)).bind fun t19 =>
  (Pl.draw t19.2 (60 : Int)).bind fun t20 =>
  (Pl.draw t20.2 (9 : Int)).bind fun t21 =>
  (some (((3 : Int) + t21.1))).bind fun v_long22 =>
  (Pl.draw t21.2 (2 : Int)).bind fun t23 =>
  ((if (!decide (t17.1 = t18.1)) = true then
  (Pl.mul t23.1 v_long22).bind fun t25 =>
  (Pl.mul ((1 : Int) - t23.1) v_long22).bind fun t26 =>
  (Pl.app s8.1 ((), t17.1, t18.1, t19.1, t20.1, (t19.1 + t25), (t20.1 + t26))).bind fun v_portals27 =>
  some (v_portals27)
  else
  some (s8.1)) : Option ((List (Unit × Int × Int × Int × Int × Int × Int)))).bind fun j24 =>
  some (j24, t23.2)) t7 (([] : List (Unit × Int × Int × Int × Int × Int × Int)), t6.2)).bind fun (s8 : (List (Unit × Int × Int × Int × Int × Int × Int)) × DS) =>
  some ((t5, s8.1), s8.2)
theorem q_law_mesh  {s : DS} (tl : List D) {r : (((List (Unit × Int × Int × Int × Int × Int)) × (List (Unit × Int × Int × Int × Int × Int × Int))) × DS)} (hr : p_law_mesh  s = some r) : m_law_mesh [.ref 1] (stT s tl) = some ((e2 (eL (e6 (eG "plate") eI eI eI eI (e1 eI))) (eL (e7 (eG "portal") eI eI eI eI eI eI))) r.1, stT r.2 tl) := by
  refine Rf.fn (o := p_law_mesh  s) (e := (fun r : (((List (Unit × Int × Int × Int × Int × Int)) × (List (Unit × Int × Int × Int × Int × Int × Int))) × DS) => (e2 (eL (e6 (eG "plate") eI eI eI eI (e1 eI))) (eL (e7 (eG "portal") eI eI eI eI eI eI))) r.1)) (hp := (fun r : (((List (Unit × Int × Int × Int × Int × Int)) × (List (Unit × Int × Int × Int × Int × Int × Int))) × DS) => stT r.2 tl)) (s := [.val (.ref 1), .no, .no, .no, .no, .no, .no, .no, .no, .no, .no]) rfl rfl ?_ hr
  unfold p_law_mesh b_law_mesh
  refine Rf.bd fun t1 h_t1 => ?_
  refine Rf.setT (t := ((1 : Int) + t1.1)) eI (ev_add ev_c (ev_call (ev_args (ev_var rfl) (ev_args ev_c ev_args0 rfl) rfl) (q_law_draw tl h_t1))) (fun _ => rfl) (fun _ => (sl_s sl_z)) fun v_many2 => ?_
  refine Rf.bd fun t3 h_t3 => ?_
  refine Rf.bd fun t5 h_t5 => ?_
  refine Rf.set0 (d := (eL (e6 (eG "plate") eI eI eI eI (e1 eI))) t5) (ev_frz (ev_cmp eI (e6 (eG "plate") eI eI eI eI (e1 eI)) (s := [.val (.ref 1), .val (eI v_many2), .no, .no, .no, .no, .no, .no, .no, .no, .no]) (s' := [.val (.ref 1), .val (eI v_many2), .no, .no, .no, .no, .no, .no, .no, .no, .no]) (s2 := [.val (.ref 1), .val (eI v_many2), .no, .no, .no, .no, .no, .no, .no, .no, .no]) (ev_rngP1 (ev_var rfl) h_t3) rfl rfl rfl rfl (fun x4 => ⟨_, _, (gr_nm (sl_s (sl_s (sl_s sl_z)))), fun b hb => by cases hb; exact ev_true, rfl, fun y hy => by cases hy; exact ⟨_, (ev_tup (ev_args ev_c (ev_args (ev_var rfl) (ev_args ev_c (ev_args (ev_var rfl) (ev_args ev_c (ev_args (ev_tup (ev_args ev_c ev_args0 rfl)) ev_args0 rfl) rfl) rfl) rfl) rfl) rfl)), rfl, rfl⟩⟩) h_t5)) rfl (sl_s (sl_s sl_z)) ?_
  refine Rf.own0 (ds := List.map (e7 (eG "portal") eI eI eI eI eI eI) ([] : List (Unit × Int × Int × Int × Int × Int × Int))) (ev_disp ev_args0) (Nat.le_of_ble_eq_true rfl) (sl_s (sl_s (sl_s (sl_s sl_z)))) ?_
  refine Rf.bd fun t6 h_t6 => ?_
  refine Rf.bd fun t7 h_t7 => ?_
  refine Rf.thn (fun (s8 : (List (Unit × Int × Int × Int × Int × Int × Int)) × DS) z' => ∃ X9 : Option D, ∃ X10 : Option D, ∃ X11 : Option D, ∃ X12 : Option D, ∃ X13 : Option D, ∃ X14 : Option D, ∃ X15 : Option D, z' = ⟨[.val (.ref 1), .val (eI v_many2), .val ((eL (e6 (eG "plate") eI eI eI eI (e1 eI))) t5), (sv X9), .own (.lst (List.map (e7 (eG "portal") eI eI eI eI eI eI) s8.1)), (sv X10), (sv X11), (sv X12), (sv X13), (sv X14), (sv X15)], (stT s8.2 tl)⟩) (Rf.forN (xs := t7) (v := (([] : List (Unit × Int × Int × Int × Int × Int × Int)), t6.2)) eI (fun (s8 : (List (Unit × Int × Int × Int × Int × Int × Int)) × DS) z' => ∃ X9 : Option D, ∃ X10 : Option D, ∃ X11 : Option D, ∃ X12 : Option D, ∃ X13 : Option D, ∃ X14 : Option D, ∃ X15 : Option D, z' = ⟨[.val (.ref 1), .val (eI v_many2), .val ((eL (e6 (eG "plate") eI eI eI eI (e1 eI))) t5), (sv X9), .own (.lst (List.map (e7 (eG "portal") eI eI eI eI eI eI) s8.1)), (sv X10), (sv X11), (sv X12), (sv X13), (sv X14), (sv X15)], (stT s8.2 tl)⟩) (ev_rngP1 (ev_call (ev_args (ev_var rfl) (ev_args ev_c ev_args0 rfl) rfl) (q_law_draw tl h_t6)) h_t7) ⟨none, none, none, none, none, none, none, rfl⟩ fun x16 s8 z' hz => ?_) ?_
  · obtain ⟨X9, X10, X11, X12, X13, X14, X15, rfl⟩ := hz
    refine ⟨_, (gr_nm (sl_s (sl_s (sl_s sl_z)))), ?_⟩
    refine Rf.bd fun t17 h_t17 => ?_
    refine Rf.set0 (d := eI t17.1) (ev_call (ev_args (ev_var rfl) (ev_args (ev_var rfl) ev_args0 rfl) rfl) (q_law_draw tl h_t17)) rfl (sl_s (sl_s (sl_s (sl_s (sl_s sl_z))))) ?_
    refine Rf.bd fun t18 h_t18 => ?_
    refine Rf.set0 (d := eI t18.1) (ev_call (ev_args (ev_var rfl) (ev_args (ev_var rfl) ev_args0 rfl) rfl) (q_law_draw tl h_t18)) rfl (sl_s (sl_s (sl_s (sl_s (sl_s (sl_s sl_z)))))) ?_
    refine Rf.bd fun t19 h_t19 => ?_
    refine Rf.set0 (d := eI t19.1) (ev_call (ev_args (ev_var rfl) (ev_args ev_c ev_args0 rfl) rfl) (q_law_draw tl h_t19)) rfl (sl_s (sl_s (sl_s (sl_s (sl_s (sl_s (sl_s sl_z))))))) ?_
    refine Rf.bd fun t20 h_t20 => ?_
    refine Rf.set0 (d := eI t20.1) (ev_call (ev_args (ev_var rfl) (ev_args ev_c ev_args0 rfl) rfl) (q_law_draw tl h_t20)) rfl (sl_s (sl_s (sl_s (sl_s (sl_s (sl_s (sl_s (sl_s sl_z)))))))) ?_
    refine Rf.bd fun t21 h_t21 => ?_
    refine Rf.setT (t := ((3 : Int) + t21.1)) eI (ev_add ev_c (ev_call (ev_args (ev_var rfl) (ev_args ev_c ev_args0 rfl) rfl) (q_law_draw tl h_t21))) (fun _ => rfl) (fun _ => (sl_s (sl_s (sl_s (sl_s (sl_s (sl_s (sl_s (sl_s (sl_s sl_z)))))))))) fun v_long22 => ?_
    refine Rf.bd fun t23 h_t23 => ?_
    refine Rf.set0 (d := eI t23.1) (ev_call (ev_args (ev_var rfl) (ev_args ev_c ev_args0 rfl) rfl) (q_law_draw tl h_t23)) rfl (sl_s (sl_s (sl_s (sl_s (sl_s (sl_s (sl_s (sl_s (sl_s (sl_s sl_z)))))))))) ?_
    refine Rf.last ?_
    refine Rf.thn (β := (List (Unit × Int × Int × Int × Int × Int × Int))) (fun j24 z' => z' = ⟨[.val (.ref 1), .val (eI v_many2), .val ((eL (e6 (eG "plate") eI eI eI eI (e1 eI))) t5), .val (eI x16), .own (.lst (List.map (e7 (eG "portal") eI eI eI eI eI eI) j24)), .val (eI t17.1), .val (eI t18.1), .val (eI t19.1), .val (eI t20.1), .val (eI v_long22), .val (eI t23.1)], (stT t23.2 tl)⟩) ?_ ?_
    · refine Rf.last ?_
      refine Rf.ite (tv (ev_neI (ev_var rfl) (ev_var rfl))) ?_ ?_
      · refine Rf.bd fun t25 h_t25 => ?_
        refine Rf.bd fun t26 h_t26 => ?_
        refine Rf.app (xs := s8.1) (t := ((), t17.1, t18.1, t19.1, t20.1, (t19.1 + t25), (t20.1 + t26))) (e7 (eG "portal") eI eI eI eI eI eI) rfl (ev_tup (ev_args ev_c (ev_args (ev_var rfl) (ev_args (ev_var rfl) (ev_args (ev_var rfl) (ev_args (ev_var rfl) (ev_args (ev_add (ev_var rfl) (ev_mulP (ev_var rfl) (ev_var rfl) h_t25)) (ev_args (ev_add (ev_var rfl) (ev_mulP (ev_sub ev_c (ev_var rfl)) (ev_var rfl) h_t26)) ev_args0 rfl) rfl) rfl) rfl) rfl) rfl) rfl)) rfl (fun _ => (sl_s (sl_s (sl_s (sl_s sl_z))))) fun v_portals27 => ?_
        exact Rf.fin ⟨rfl, rfl⟩
      · refine Rf.skip ?_
        exact Rf.fin ⟨rfl, rfl⟩
    · rintro j24 _ ⟨rfl⟩
      exact Rf.fin ⟨.inl rfl, (some (eI x16)), (some (eI t17.1)), (some (eI t18.1)), (some (eI t19.1)), (some (eI t20.1)), (some (eI v_long22)), (some (eI t23.1)), rfl⟩
  · rintro s8 _ ⟨X9, X10, X11, X12, X13, X14, X15, rfl⟩
    refine Rf.frz rfl (sl_s (sl_s (sl_s (sl_s sl_z)))) ?_
    refine Rf.last ?_
    exact Rf.ret (ev_tup (ev_args (ev_var rfl) (ev_args (ev_var rfl) ev_args0 rfl) rfl)) rfl ⟨.inl rfl, rfl⟩
def p_law_apart (v_one : (Int × Int)) (v_other : (Int × Int)) : Int :=
  ((if (v_one.1 - v_other.1) < 0 then -(v_one.1 - v_other.1) else (v_one.1 - v_other.1)) + (if (v_one.2 - v_other.2) < 0 then -(v_one.2 - v_other.2) else (v_one.2 - v_other.2)))
theorem q_law_apart (v_one : (Int × Int)) (v_other : (Int × Int)) (h : List D) : m_law_apart [(e2 eI eI) v_one, (e2 eI eI) v_other] h = some (eI (p_law_apart v_one v_other), h) := by
  refine Rf.fn (o := some (p_law_apart v_one v_other)) (e := eI) (hp := fun _ => h) (s := [.val ((e2 eI eI) v_one), .val ((e2 eI eI) v_other)]) rfl rfl ?_ rfl
  unfold p_law_apart b_law_apart
  refine Rf.last ?_
  exact Rf.ret (ev_add (ev_blt1 (ev_sub (ev_ix (ev_var rfl) ev_c rfl rfl) (ev_ix (ev_var rfl) ev_c rfl rfl)) lf_abs) (ev_blt1 (ev_sub (ev_ix (ev_var rfl) ev_c rfl rfl) (ev_ix (ev_var rfl) ev_c rfl rfl)) lf_abs)) rfl ⟨.inl rfl, rfl⟩
def p_law_middle (v_portal : (Unit × Int × Int × Int × Int × Int × Int)) : (Int × Int) :=
  ((v_portal.2.2.2.1 + v_portal.2.2.2.2.2.1), (v_portal.2.2.2.2.1 + v_portal.2.2.2.2.2.2))
theorem q_law_middle (v_portal : (Unit × Int × Int × Int × Int × Int × Int)) (h : List D) : m_law_middle [(e7 (eG "portal") eI eI eI eI eI eI) v_portal] h = some ((e2 eI eI) (p_law_middle v_portal), h) := by
  refine Rf.fn (o := some (p_law_middle v_portal)) (e := (e2 eI eI)) (hp := fun _ => h) (s := [.val ((e7 (eG "portal") eI eI eI eI eI eI) v_portal)]) rfl rfl ?_ rfl
  unfold p_law_middle b_law_middle
  refine Rf.last ?_
  exact Rf.ret (ev_tup (ev_args (ev_add (ev_ix (ev_var rfl) ev_c rfl rfl) (ev_ix (ev_var rfl) ev_c rfl rfl)) (ev_args (ev_add (ev_ix (ev_var rfl) ev_c rfl rfl) (ev_ix (ev_var rfl) ev_c rfl rfl)) ev_args0 rfl) rfl)) rfl ⟨.inl rfl, rfl⟩
def p_law_least (v_mesh_here : ((List (Unit × Int × Int × Int × Int × Int)) × (List (Unit × Int × Int × Int × Int × Int × Int)))) (v_start : (Int × Int × Int)) (v_goal : (Int × Int × Int)) : Option (Option Int) :=
  (Pl.rngO 0 (v_mesh_here.2.length : Int)).bind fun t1 =>
  (Pl.forN (fun (x5 : Int) (s2 : (List ((Int × Int) × Int))) =>
  (Pl.forN (fun (x8 : Int) (s6 : (List ((Int × Int) × Int))) =>
  (Pl.at_ v_mesh_here.2 x5).bind fun t9 =>
  (Pl.atO [none, some t9.2.1, some t9.2.2.1, some t9.2.2.2.1, some t9.2.2.2.2.1, some t9.2.2.2.2.2.1, some t9.2.2.2.2.2.2] x8).bind fun t10 =>
  ((if (decide (t10 = v_start.2.2)) = true then
  (Pl.mul (2 : Int) v_start.1).bind fun t12 =>
  (Pl.mul (2 : Int) v_start.2.1).bind fun t13 =>
  (Pl.at_ v_mesh_here.2 x5).bind fun t14 =>
  (Pl.at_ v_mesh_here.2 x5).bind fun t15 =>
  (Pl.atO [none, some t15.2.1, some t15.2.2.1, some t15.2.2.2.1, some t15.2.2.2.2.1, some t15.2.2.2.2.2.1, some t15.2.2.2.2.2.2] ((3 : Int) - x8)).bind fun t16 =>
  (Pl.dput s6 (x5, t16) (p_law_apart (t12, t13) (p_law_middle t14))).bind fun v_paid17 =>
  some (v_paid17)
  else
  some (s6)) : Option ((List ((Int × Int) × Int)))).bind fun j11 =>
  some (j11)) [(1 : Int), (2 : Int)] (s2)).bind fun (s6 : (List ((Int × Int) × Int))) =>
  some (s6)) t1 (([] : (List ((Int × Int) × Int))))).bind fun (s2 : (List ((Int × Int) × Int))) =>
  (Pl.mul (2 : Int) (v_mesh_here.2.length : Int)).bind fun t18 =>
  (Pl.rngO 0 t18).bind fun t19 =>
  (Pl.forN (fun (x28 : Int) (s20 : (List ((Int × Int) × Int))) =>
  (if (s20.map Prod.fst).length ≤ szl then some ((s20.map Prod.fst).mergeSort fun a b => decide ((fun x : (Int × Int) => [x.1, x.2]) a ≤ (fun x : (Int × Int) => [x.1, x.2]) b)) else none).bind fun t29 =>
  (Pl.forN (fun (x37 : (Int × Int)) (s30 : (List ((Int × Int) × Int))) =>
  (Pl.rngO 0 (v_mesh_here.2.length : Int)).bind fun t38 =>
  (Pl.forN (fun (x44 : Int) (s39 : (List ((Int × Int) × Int))) =>
  (Pl.forN (fun (x49 : Int) (s45 : (List ((Int × Int) × Int))) =>
  (getG s45 (x37.1, x37.2)).bind fun t50 =>
  (Pl.at_ v_mesh_here.2 x37.1).bind fun t51 =>
  (Pl.at_ v_mesh_here.2 x44).bind fun t52 =>
  (some ((t50 + (p_law_apart (p_law_middle t51) (p_law_middle t52))))).bind fun v_more53 =>
  (Pl.at_ v_mesh_here.2 x44).bind fun t54 =>
  (Pl.atO [none, some t54.2.1, some t54.2.2.1, some t54.2.2.2.1, some t54.2.2.2.2.1, some t54.2.2.2.2.2.1, some t54.2.2.2.2.2.2] ((3 : Int) - x49)).bind fun t55 =>
  (some ((x44, t55))).bind fun v_key56 =>
  (Pl.at_ v_mesh_here.2 x44).bind fun t57 =>
  (Pl.atO [none, some t57.2.1, some t57.2.2.1, some t57.2.2.2.1, some t57.2.2.2.2.1, some t57.2.2.2.2.2.1, some t57.2.2.2.2.2.2] x49).bind fun t58 =>
  ((if ((decide (t58 = x37.2)) && (decide (v_more53 < ((getG s45 v_key56).getD (v_more53 + (1 : Int)))))) = true then
  (Pl.dput s45 v_key56 v_more53).bind fun v_paid60 =>
  some (v_paid60)
  else
  some (s45)) : Option ((List ((Int × Int) × Int)))).bind fun j59 =>
  some (j59)) [(1 : Int), (2 : Int)] (s39)).bind fun (s45 : (List ((Int × Int) × Int))) =>
  some (s45)) t38 (s30)).bind fun (s39 : (List ((Int × Int) × Int))) =>
  some (s39)) t29 (s20)).bind fun (s30 : (List ((Int × Int) × Int))) =>
  some (s30)) t19 (s2)).bind fun (s20 : (List ((Int × Int) × Int))) =>
  (if (s20.map Prod.fst).length ≤ szl then some ((s20.map Prod.fst).mergeSort fun a b => decide ((fun x : (Int × Int) => [x.1, x.2]) a ≤ (fun x : (Int × Int) => [x.1, x.2]) b)) else none).bind fun t61 =>
  (Pl.comp (fun (x62 : (Int × Int)) => (some (decide (x62.2 = v_goal.2.2)))) (fun (x62 : (Int × Int)) => ((getG s20 x62).bind fun t63 => (Pl.at_ v_mesh_here.2 x62.1).bind fun t64 => (Pl.mul (2 : Int) v_goal.1).bind fun t65 => (Pl.mul (2 : Int) v_goal.2.1).bind fun t66 => some (t63 + (p_law_apart (p_law_middle t64) (t65, t66))))) t61).bind fun t67 =>
  ((if (decide (v_start.2.2 = v_goal.2.2)) = true then
  (Pl.mul (2 : Int) v_start.1).bind fun t69 =>
  (Pl.mul (2 : Int) v_start.2.1).bind fun t70 =>
  (Pl.mul (2 : Int) v_goal.1).bind fun t71 =>
  (Pl.mul (2 : Int) v_goal.2.1).bind fun t72 =>
  (Pl.app t67 (p_law_apart (t69, t70) (t71, t72))).bind fun v_found73 =>
  some (v_found73)
  else
  some (t67)) : Option ((List Int))).bind fun j68 =>
  (if (decide ((j68.length : Int) = (0 : Int))) = true then
  some none
  else
  (F.minL j68).bind fun t74 =>
  some (some t74))
theorem q_law_least {v_mesh_here : ((List (Unit × Int × Int × Int × Int × Int)) × (List (Unit × Int × Int × Int × Int × Int × Int)))} {v_start : (Int × Int × Int)} {v_goal : (Int × Int × Int)} (h : List D) {r : (Option Int)} (hr : p_law_least v_mesh_here v_start v_goal = some r) : m_law_least [(e2 (eL (e6 (eG "plate") eI eI eI eI (e1 eI))) (eL (e7 (eG "portal") eI eI eI eI eI eI))) v_mesh_here, (e3 eI eI eI) v_start, (e3 eI eI eI) v_goal] h = some ((eO eI) r, h) := by
  refine Rf.fn (o := p_law_least v_mesh_here v_start v_goal) (e := (eO eI)) (hp := (fun _ : (Option Int) => h)) (s := [.val ((e2 (eL (e6 (eG "plate") eI eI eI eI (e1 eI))) (eL (e7 (eG "portal") eI eI eI eI eI eI))) v_mesh_here), .val ((e3 eI eI eI) v_start), .val ((e3 eI eI eI) v_goal), .no, .no, .no, .no, .no, .no, .no, .no, .no, .no]) rfl rfl ?_ hr
  unfold p_law_least b_law_least
  refine Rf.set0 (d := (eL (e7 (eG "portal") eI eI eI eI eI eI)) v_mesh_here.2) (ev_ix (ev_var rfl) ev_c rfl rfl) rfl (sl_s (sl_s (sl_s sl_z))) ?_
  refine Rf.ownD (d := (eT (y2 yI yI) eI) ([] : (List ((Int × Int) × Int)))) rfl (Nat.le_of_ble_eq_true rfl) (sl_s (sl_s (sl_s (sl_s sl_z)))) ?_
  refine Rf.bd fun t1 h_t1 => ?_
  refine Rf.thn (fun (s2 : (List ((Int × Int) × Int))) z' => ∃ X3 : Option D, ∃ X4 : Option D, z' = ⟨[.val ((e2 (eL (e6 (eG "plate") eI eI eI eI (e1 eI))) (eL (e7 (eG "portal") eI eI eI eI eI eI))) v_mesh_here), .val ((e3 eI eI eI) v_start), .val ((e3 eI eI eI) v_goal), .val ((eL (e7 (eG "portal") eI eI eI eI eI eI)) v_mesh_here.2), .own ((eT (y2 yI yI) eI) s2), (sv X3), (sv X4), .no, .no, .no, .no, .no, .no], h⟩) (Rf.forN (xs := t1) (v := (([] : (List ((Int × Int) × Int))))) eI (fun (s2 : (List ((Int × Int) × Int))) z' => ∃ X3 : Option D, ∃ X4 : Option D, z' = ⟨[.val ((e2 (eL (e6 (eG "plate") eI eI eI eI (e1 eI))) (eL (e7 (eG "portal") eI eI eI eI eI eI))) v_mesh_here), .val ((e3 eI eI eI) v_start), .val ((e3 eI eI eI) v_goal), .val ((eL (e7 (eG "portal") eI eI eI eI eI eI)) v_mesh_here.2), .own ((eT (y2 yI yI) eI) s2), (sv X3), (sv X4), .no, .no, .no, .no, .no, .no], h⟩) (ev_rngP1 (ev_blt1 (ev_var rfl) (F_lenM (e := (e7 (eG "portal") eI eI eI eI eI eI)) rfl)) h_t1) ⟨none, none, rfl⟩ fun x5 s2 z' hz => ?_) ?_
  · obtain ⟨X3, X4, rfl⟩ := hz
    refine ⟨_, (gr_nm (sl_s (sl_s (sl_s (sl_s (sl_s sl_z)))))), ?_⟩
    refine Rf.last ?_
    refine Rf.thn (fun (s6 : (List ((Int × Int) × Int))) z' => ∃ X7 : Option D, z' = ⟨[.val ((e2 (eL (e6 (eG "plate") eI eI eI eI (e1 eI))) (eL (e7 (eG "portal") eI eI eI eI eI eI))) v_mesh_here), .val ((e3 eI eI eI) v_start), .val ((e3 eI eI eI) v_goal), .val ((eL (e7 (eG "portal") eI eI eI eI eI eI)) v_mesh_here.2), .own ((eT (y2 yI yI) eI) s6), .val (eI x5), (sv X7), .no, .no, .no, .no, .no, .no], h⟩) (Rf.forN (xs := [(1 : Int), (2 : Int)]) (v := (s2)) eI (fun (s6 : (List ((Int × Int) × Int))) z' => ∃ X7 : Option D, z' = ⟨[.val ((e2 (eL (e6 (eG "plate") eI eI eI eI (e1 eI))) (eL (e7 (eG "portal") eI eI eI eI eI eI))) v_mesh_here), .val ((e3 eI eI eI) v_start), .val ((e3 eI eI eI) v_goal), .val ((eL (e7 (eG "portal") eI eI eI eI eI eI)) v_mesh_here.2), .own ((eT (y2 yI yI) eI) s6), .val (eI x5), (sv X7), .no, .no, .no, .no, .no, .no], h⟩) (ev_itsP (e := eI) (xs := [(1 : Int), (2 : Int)]) (ev_frz (ev_disp (ev_args ev_c (ev_args ev_c ev_args0 rfl) rfl))) rfl) ⟨X4, rfl⟩ fun x8 s6 z' hz => ?_) ?_
    · obtain ⟨X7, rfl⟩ := hz
      refine ⟨_, (gr_nm (sl_s (sl_s (sl_s (sl_s (sl_s (sl_s sl_z))))))), ?_⟩
      refine Rf.last ?_
      refine Rf.bd fun t9 h_t9 => ?_
      refine Rf.bd fun t10 h_t10 => ?_
      refine Rf.thn (β := (List ((Int × Int) × Int))) (fun j11 z' => z' = ⟨[.val ((e2 (eL (e6 (eG "plate") eI eI eI eI (e1 eI))) (eL (e7 (eG "portal") eI eI eI eI eI eI))) v_mesh_here), .val ((e3 eI eI eI) v_start), .val ((e3 eI eI eI) v_goal), .val ((eL (e7 (eG "portal") eI eI eI eI eI eI)) v_mesh_here.2), .own ((eT (y2 yI yI) eI) j11), .val (eI x5), .val (eI x8), .no, .no, .no, .no, .no, .no], h⟩) ?_ ?_
      · refine Rf.last ?_
        refine Rf.ite (tv (ev_eqI (ev_ixO (ev_ixP (e := (e7 (eG "portal") eI eI eI eI eI eI)) (ev_var rfl) (ev_var rfl) rfl h_t9) (ev_var rfl) rfl rfl h_t10) (ev_ix (ev_var rfl) ev_c rfl rfl))) ?_ ?_
        · refine Rf.bd fun t12 h_t12 => ?_
          refine Rf.bd fun t13 h_t13 => ?_
          refine Rf.bd fun t14 h_t14 => ?_
          refine Rf.bd fun t15 h_t15 => ?_
          refine Rf.bd fun t16 h_t16 => ?_
          refine Rf.dputT (Y := (y2 yI yI)) (kvs := s6) (k0 := (x5, t16)) (v := (p_law_apart (t12, t13) (p_law_middle t14))) eI (ev_call (ev_args (ev_tup (ev_args (ev_mulP ev_c (ev_ix (ev_var rfl) ev_c rfl rfl) h_t12) (ev_args (ev_mulP ev_c (ev_ix (ev_var rfl) ev_c rfl rfl) h_t13) ev_args0 rfl) rfl)) (ev_args (ev_call (ev_args (ev_ixP (e := (e7 (eG "portal") eI eI eI eI eI eI)) (ev_var rfl) (ev_var rfl) rfl h_t14) ev_args0 rfl) (q_law_middle t14 _)) ev_args0 rfl) rfl) (q_law_apart (t12, t13) (p_law_middle t14) _)) (ev_varO rfl) (ev_tup (ev_args (ev_var rfl) (ev_args (ev_ixO (ev_ixP (e := (e7 (eG "portal") eI eI eI eI eI eI)) (ev_var rfl) (ev_var rfl) rfl h_t15) (ev_sub ev_c (ev_var rfl)) rfl rfl h_t16) ev_args0 rfl) rfl)) rfl rfl rfl (fun _ => (sl_s (sl_s (sl_s (sl_s sl_z))))) fun v_paid17 => ?_
          exact Rf.fin ⟨rfl, rfl⟩
        · refine Rf.skip ?_
          exact Rf.fin ⟨rfl, rfl⟩
      · rintro j11 _ ⟨rfl⟩
        exact Rf.fin ⟨.inl rfl, (some (eI x8)), rfl⟩
    · rintro s6 _ ⟨X7, rfl⟩
      exact Rf.fin ⟨.inl rfl, (some (eI x5)), X7, rfl⟩
  · rintro s2 _ ⟨X3, X4, rfl⟩
    refine Rf.bd fun t18 h_t18 => ?_
    refine Rf.bd fun t19 h_t19 => ?_
    refine Rf.thn (fun (s20 : (List ((Int × Int) × Int))) z' => ∃ X21 : Option D, ∃ X22 : Option D, ∃ X23 : Option D, ∃ X24 : Option D, ∃ X25 : Option D, ∃ X26 : Option D, ∃ X27 : Option D, z' = ⟨[.val ((e2 (eL (e6 (eG "plate") eI eI eI eI (e1 eI))) (eL (e7 (eG "portal") eI eI eI eI eI eI))) v_mesh_here), .val ((e3 eI eI eI) v_start), .val ((e3 eI eI eI) v_goal), .val ((eL (e7 (eG "portal") eI eI eI eI eI eI)) v_mesh_here.2), .own ((eT (y2 yI yI) eI) s20), (sv X24), (sv X25), (sv X21), (sv X22), (sv X23), (sv X26), (sv X27), .no], h⟩) (Rf.forN (xs := t19) (v := (s2)) eI (fun (s20 : (List ((Int × Int) × Int))) z' => ∃ X21 : Option D, ∃ X22 : Option D, ∃ X23 : Option D, ∃ X24 : Option D, ∃ X25 : Option D, ∃ X26 : Option D, ∃ X27 : Option D, z' = ⟨[.val ((e2 (eL (e6 (eG "plate") eI eI eI eI (e1 eI))) (eL (e7 (eG "portal") eI eI eI eI eI eI))) v_mesh_here), .val ((e3 eI eI eI) v_start), .val ((e3 eI eI eI) v_goal), .val ((eL (e7 (eG "portal") eI eI eI eI eI eI)) v_mesh_here.2), .own ((eT (y2 yI yI) eI) s20), (sv X24), (sv X25), (sv X21), (sv X22), (sv X23), (sv X26), (sv X27), .no], h⟩) (ev_rngP1 (ev_mulP ev_c (ev_blt1 (ev_var rfl) (F_lenM (e := (e7 (eG "portal") eI eI eI eI eI eI)) rfl)) h_t18) h_t19) ⟨none, none, none, X3, X4, none, none, rfl⟩ fun x28 s20 z' hz => ?_) ?_
    · obtain ⟨X21, X22, X23, X24, X25, X26, X27, rfl⟩ := hz
      refine ⟨_, (gr_nm (sl_s (sl_s (sl_s (sl_s (sl_s (sl_s (sl_s sl_z)))))))), ?_⟩
      refine Rf.last ?_
      refine Rf.bd fun t29 h_t29 => ?_
      refine Rf.thn (fun (s30 : (List ((Int × Int) × Int))) z' => ∃ X31 : Option D, ∃ X32 : Option D, ∃ X33 : Option D, ∃ X34 : Option D, ∃ X35 : Option D, ∃ X36 : Option D, z' = ⟨[.val ((e2 (eL (e6 (eG "plate") eI eI eI eI (e1 eI))) (eL (e7 (eG "portal") eI eI eI eI eI eI))) v_mesh_here), .val ((e3 eI eI eI) v_start), .val ((e3 eI eI eI) v_goal), .val ((eL (e7 (eG "portal") eI eI eI eI eI eI)) v_mesh_here.2), .own ((eT (y2 yI yI) eI) s30), (sv X33), (sv X34), .val (eI x28), (sv X31), (sv X32), (sv X35), (sv X36), .no], h⟩) (Rf.forN (xs := t29) (v := (s20)) (e2 eI eI) (fun (s30 : (List ((Int × Int) × Int))) z' => ∃ X31 : Option D, ∃ X32 : Option D, ∃ X33 : Option D, ∃ X34 : Option D, ∃ X35 : Option D, ∃ X36 : Option D, z' = ⟨[.val ((e2 (eL (e6 (eG "plate") eI eI eI eI (e1 eI))) (eL (e7 (eG "portal") eI eI eI eI eI eI))) v_mesh_here), .val ((e3 eI eI eI) v_start), .val ((e3 eI eI eI) v_goal), .val ((eL (e7 (eG "portal") eI eI eI eI eI eI)) v_mesh_here.2), .own ((eT (y2 yI yI) eI) s30), (sv X33), (sv X34), .val (eI x28), (sv X31), (sv X32), (sv X35), (sv X36), .no], h⟩) (ev_itsP (e := (e2 eI eI)) (xs := t29) (ev_lkSort (y2 yI yI) eI (e2 eI eI) rfl (ev_sortedDP (e := (e2 eI eI)) (fun x : (Int × Int) => [x.1, x.2]) (ev_lkV rfl) (dk_keys (f := (e2 eI eI)) (fun _ => rfl)) (fun _ => rfl) (fun _ => List.cons_ne_nil _ _) h_t29) (fun _ => rfl) (fun _ => rfl)) rfl) ⟨X22, X23, X24, X25, X26, X27, rfl⟩ fun x37 s30 z' hz => ?_) ?_
      · obtain ⟨X31, X32, X33, X34, X35, X36, rfl⟩ := hz
        refine ⟨_, (gr_tp (gr_cons (gr_nm (sl_s (sl_s (sl_s (sl_s (sl_s (sl_s (sl_s (sl_s sl_z))))))))) (gr_cons (gr_nm (sl_s (sl_s (sl_s (sl_s (sl_s (sl_s (sl_s (sl_s (sl_s sl_z)))))))))) gr_nil))), ?_⟩
        refine Rf.last ?_
        refine Rf.bd fun t38 h_t38 => ?_
        refine Rf.thn (fun (s39 : (List ((Int × Int) × Int))) z' => ∃ X40 : Option D, ∃ X41 : Option D, ∃ X42 : Option D, ∃ X43 : Option D, z' = ⟨[.val ((e2 (eL (e6 (eG "plate") eI eI eI eI (e1 eI))) (eL (e7 (eG "portal") eI eI eI eI eI eI))) v_mesh_here), .val ((e3 eI eI eI) v_start), .val ((e3 eI eI eI) v_goal), .val ((eL (e7 (eG "portal") eI eI eI eI eI eI)) v_mesh_here.2), .own ((eT (y2 yI yI) eI) s39), (sv X40), (sv X41), .val (eI x28), .val (eI x37.1), .val (eI x37.2), (sv X42), (sv X43), .no], h⟩) (Rf.forN (xs := t38) (v := (s30)) eI (fun (s39 : (List ((Int × Int) × Int))) z' => ∃ X40 : Option D, ∃ X41 : Option D, ∃ X42 : Option D, ∃ X43 : Option D, z' = ⟨[.val ((e2 (eL (e6 (eG "plate") eI eI eI eI (e1 eI))) (eL (e7 (eG "portal") eI eI eI eI eI eI))) v_mesh_here), .val ((e3 eI eI eI) v_start), .val ((e3 eI eI eI) v_goal), .val ((eL (e7 (eG "portal") eI eI eI eI eI eI)) v_mesh_here.2), .own ((eT (y2 yI yI) eI) s39), (sv X40), (sv X41), .val (eI x28), .val (eI x37.1), .val (eI x37.2), (sv X42), (sv X43), .no], h⟩) (ev_rngP1 (ev_blt1 (ev_var rfl) (F_lenM (e := (e7 (eG "portal") eI eI eI eI eI eI)) rfl)) h_t38) ⟨X33, X34, X35, X36, rfl⟩ fun x44 s39 z' hz => ?_) ?_
        · obtain ⟨X40, X41, X42, X43, rfl⟩ := hz
          refine ⟨_, (gr_nm (sl_s (sl_s (sl_s (sl_s (sl_s sl_z)))))), ?_⟩
          refine Rf.last ?_
          refine Rf.thn (fun (s45 : (List ((Int × Int) × Int))) z' => ∃ X46 : Option D, ∃ X47 : Option D, ∃ X48 : Option D, z' = ⟨[.val ((e2 (eL (e6 (eG "plate") eI eI eI eI (e1 eI))) (eL (e7 (eG "portal") eI eI eI eI eI eI))) v_mesh_here), .val ((e3 eI eI eI) v_start), .val ((e3 eI eI eI) v_goal), .val ((eL (e7 (eG "portal") eI eI eI eI eI eI)) v_mesh_here.2), .own ((eT (y2 yI yI) eI) s45), .val (eI x44), (sv X46), .val (eI x28), .val (eI x37.1), .val (eI x37.2), (sv X47), (sv X48), .no], h⟩) (Rf.forN (xs := [(1 : Int), (2 : Int)]) (v := (s39)) eI (fun (s45 : (List ((Int × Int) × Int))) z' => ∃ X46 : Option D, ∃ X47 : Option D, ∃ X48 : Option D, z' = ⟨[.val ((e2 (eL (e6 (eG "plate") eI eI eI eI (e1 eI))) (eL (e7 (eG "portal") eI eI eI eI eI eI))) v_mesh_here), .val ((e3 eI eI eI) v_start), .val ((e3 eI eI eI) v_goal), .val ((eL (e7 (eG "portal") eI eI eI eI eI eI)) v_mesh_here.2), .own ((eT (y2 yI yI) eI) s45), .val (eI x44), (sv X46), .val (eI x28), .val (eI x37.1), .val (eI x37.2), (sv X47), (sv X48), .no], h⟩) (ev_itsP (e := eI) (xs := [(1 : Int), (2 : Int)]) (ev_frz (ev_disp (ev_args ev_c (ev_args ev_c ev_args0 rfl) rfl))) rfl) ⟨X41, X42, X43, rfl⟩ fun x49 s45 z' hz => ?_) ?_
          · obtain ⟨X46, X47, X48, rfl⟩ := hz
            refine ⟨_, (gr_nm (sl_s (sl_s (sl_s (sl_s (sl_s (sl_s sl_z))))))), ?_⟩
            refine Rf.bd fun t50 h_t50 => ?_
            refine Rf.bd fun t51 h_t51 => ?_
            refine Rf.bd fun t52 h_t52 => ?_
            refine Rf.setT (t := (t50 + (p_law_apart (p_law_middle t51) (p_law_middle t52)))) eI (ev_add (ev_dixP (e := eI) (ev_varO rfl) (ev_tup (ev_args (ev_var rfl) (ev_args (ev_var rfl) ev_args0 rfl) rfl)) (dc_own rfl) (dgT rfl) h_t50) (ev_call (ev_args (ev_call (ev_args (ev_ixP (e := (e7 (eG "portal") eI eI eI eI eI eI)) (ev_var rfl) (ev_var rfl) rfl h_t51) ev_args0 rfl) (q_law_middle t51 _)) (ev_args (ev_call (ev_args (ev_ixP (e := (e7 (eG "portal") eI eI eI eI eI eI)) (ev_var rfl) (ev_var rfl) rfl h_t52) ev_args0 rfl) (q_law_middle t52 _)) ev_args0 rfl) rfl) (q_law_apart (p_law_middle t51) (p_law_middle t52) _))) (fun _ => rfl) (fun _ => (sl_s (sl_s (sl_s (sl_s (sl_s (sl_s (sl_s (sl_s (sl_s (sl_s sl_z))))))))))) fun v_more53 => ?_
            refine Rf.bd fun t54 h_t54 => ?_
            refine Rf.bd fun t55 h_t55 => ?_
            refine Rf.setT (t := (x44, t55)) (e2 eI eI) (ev_tup (ev_args (ev_var rfl) (ev_args (ev_ixO (ev_ixP (e := (e7 (eG "portal") eI eI eI eI eI eI)) (ev_var rfl) (ev_var rfl) rfl h_t54) (ev_sub ev_c (ev_var rfl)) rfl rfl h_t55) ev_args0 rfl) rfl)) (fun _ => rfl) (fun _ => (sl_s (sl_s (sl_s (sl_s (sl_s (sl_s (sl_s (sl_s (sl_s (sl_s (sl_s sl_z)))))))))))) fun v_key56 => ?_
            refine Rf.last ?_
            refine Rf.bd fun t57 h_t57 => ?_
            refine Rf.bd fun t58 h_t58 => ?_
            refine Rf.thn (β := (List ((Int × Int) × Int))) (fun j59 z' => z' = ⟨[.val ((e2 (eL (e6 (eG "plate") eI eI eI eI (e1 eI))) (eL (e7 (eG "portal") eI eI eI eI eI eI))) v_mesh_here), .val ((e3 eI eI eI) v_start), .val ((e3 eI eI eI) v_goal), .val ((eL (e7 (eG "portal") eI eI eI eI eI eI)) v_mesh_here.2), .own ((eT (y2 yI yI) eI) j59), .val (eI x44), .val (eI x49), .val (eI x28), .val (eI x37.1), .val (eI x37.2), .val (eI v_more53), .val ((e2 eI eI) v_key56), .no], h⟩) ?_ ?_
            · refine Rf.last ?_
              refine Rf.ite (tt_and (tv (ev_eqI (ev_ixO (ev_ixP (e := (e7 (eG "portal") eI eI eI eI eI eI)) (ev_var rfl) (ev_var rfl) rfl h_t57) (ev_var rfl) rfl rfl h_t58) (ev_var rfl))) fun _ => (tv (ev_gt (ev_get2P (e := eI) (v := (v_more53 + (1 : Int))) (ev_varO rfl) rfl (ev_var rfl) (ev_add (ev_var rfl) ev_c) rfl (dc_own rfl) (dgT rfl)) (ev_var rfl)))) ?_ ?_
              · refine Rf.dputT (Y := (y2 yI yI)) (kvs := s45) (k0 := v_key56) (v := v_more53) eI (ev_var rfl) (ev_varO rfl) (ev_var rfl) rfl rfl rfl (fun _ => (sl_s (sl_s (sl_s (sl_s sl_z))))) fun v_paid60 => ?_
                exact Rf.fin ⟨rfl, rfl⟩
              · refine Rf.skip ?_
                exact Rf.fin ⟨rfl, rfl⟩
            · rintro j59 _ ⟨rfl⟩
              exact Rf.fin ⟨.inl rfl, (some (eI x49)), (some (eI v_more53)), (some ((e2 eI eI) v_key56)), rfl⟩
          · rintro s45 _ ⟨X46, X47, X48, rfl⟩
            exact Rf.fin ⟨.inl rfl, (some (eI x44)), X46, X47, X48, rfl⟩
        · rintro s39 _ ⟨X40, X41, X42, X43, rfl⟩
          exact Rf.fin ⟨.inl rfl, (some (eI x37.1)), (some (eI x37.2)), X40, X41, X42, X43, rfl⟩
      · rintro s30 _ ⟨X31, X32, X33, X34, X35, X36, rfl⟩
        exact Rf.fin ⟨.inl rfl, (some (eI x28)), X31, X32, X33, X34, X35, X36, rfl⟩
    · rintro s20 _ ⟨X21, X22, X23, X24, X25, X26, X27, rfl⟩
      refine Rf.frzD rfl rfl (sl_s (sl_s (sl_s (sl_s sl_z)))) ?_
      refine Rf.bd fun t61 h_t61 => ?_
      refine Rf.bd fun t67 h_t67 => ?_
      refine Rf.own0 (ds := List.map eI t67) (ev_cmp (e2 eI eI) eI (s := [.val ((e2 (eL (e6 (eG "plate") eI eI eI eI (e1 eI))) (eL (e7 (eG "portal") eI eI eI eI eI eI))) v_mesh_here), .val ((e3 eI eI eI) v_start), .val ((e3 eI eI eI) v_goal), .val ((eL (e7 (eG "portal") eI eI eI eI eI eI)) v_mesh_here.2), .val ((eT (y2 yI yI) eI) s20), (sv X24), (sv X25), (sv X21), (sv X22), (sv X23), (sv X26), (sv X27), .no]) (s' := [.val ((e2 (eL (e6 (eG "plate") eI eI eI eI (e1 eI))) (eL (e7 (eG "portal") eI eI eI eI eI eI))) v_mesh_here), .val ((e3 eI eI eI) v_start), .val ((e3 eI eI eI) v_goal), .val ((eL (e7 (eG "portal") eI eI eI eI eI eI)) v_mesh_here.2), .val ((eT (y2 yI yI) eI) s20), (sv X24), (sv X25), (sv X21), (sv X22), (sv X23), (sv X26), .no, .no]) (s2 := [.val ((e2 (eL (e6 (eG "plate") eI eI eI eI (e1 eI))) (eL (e7 (eG "portal") eI eI eI eI eI eI))) v_mesh_here), .val ((e3 eI eI eI) v_start), .val ((e3 eI eI eI) v_goal), .val ((eL (e7 (eG "portal") eI eI eI eI eI eI)) v_mesh_here.2), .val ((eT (y2 yI yI) eI) s20), (sv X24), (sv X25), (sv X21), (sv X22), (sv X23), (sv X26), (sv X27), .no]) (ev_itsC (e := (e2 eI eI)) (xs := t61) (ev_frz (ev_sortedDP (e := (e2 eI eI)) (fun x : (Int × Int) => [x.1, x.2]) (ev_var rfl) (dk_keys (f := (e2 eI eI)) (fun _ => rfl)) (fun _ => rfl) (fun _ => List.cons_ne_nil _ _) h_t61)) rfl) (by cases X27 <;>  rfl) rfl rfl rfl (fun x62 => ⟨_, _, (gr_nm (sl_s (sl_s (sl_s (sl_s (sl_s (sl_s (sl_s (sl_s (sl_s (sl_s (sl_s sl_z)))))))))))), fun b hb => by cases hb; exact (tv (ev_eqI (ev_ix (ev_var rfl) ev_c rfl rfl) (ev_ix (ev_var rfl) ev_c rfl rfl))), rfl, fun y hy => by obtain ⟨t63, h_t63, hy⟩ := bI hy; obtain ⟨t64, h_t64, hy⟩ := bI hy; obtain ⟨t65, h_t65, hy⟩ := bI hy; obtain ⟨t66, h_t66, hy⟩ := bI hy; cases hy; exact ⟨_, (ev_add (ev_dixP (e := eI) (ev_var rfl) (ev_var rfl) rfl (dgT rfl) h_t63) (ev_call (ev_args (ev_call (ev_args (ev_ixP (e := (e7 (eG "portal") eI eI eI eI eI eI)) (ev_var rfl) (ev_ix (ev_var rfl) ev_c rfl rfl) rfl h_t64) ev_args0 rfl) (q_law_middle t64 _)) (ev_args (ev_tup (ev_args (ev_mulP ev_c (ev_ix (ev_var rfl) ev_c rfl rfl) h_t65) (ev_args (ev_mulP ev_c (ev_ix (ev_var rfl) ev_c rfl rfl) h_t66) ev_args0 rfl) rfl)) ev_args0 rfl) rfl) (q_law_apart (p_law_middle t64) (t65, t66) _))), rfl, rfl⟩⟩) h_t67) (Nat.le_of_ble_eq_true rfl) (sl_s (sl_s (sl_s (sl_s (sl_s (sl_s (sl_s (sl_s (sl_s (sl_s (sl_s (sl_s sl_z)))))))))))) ?_
      refine Rf.thn (β := (List Int)) (fun j68 z' => z' = ⟨[.val ((e2 (eL (e6 (eG "plate") eI eI eI eI (e1 eI))) (eL (e7 (eG "portal") eI eI eI eI eI eI))) v_mesh_here), .val ((e3 eI eI eI) v_start), .val ((e3 eI eI eI) v_goal), .val ((eL (e7 (eG "portal") eI eI eI eI eI eI)) v_mesh_here.2), .val ((eT (y2 yI yI) eI) s20), (sv X24), (sv X25), (sv X21), (sv X22), (sv X23), (sv X26), (sv X27), .own (.lst (List.map eI j68))], h⟩) ?_ ?_
      · refine Rf.last ?_
        refine Rf.ite (tv (ev_eqI (ev_ix (ev_var rfl) ev_c rfl rfl) (ev_ix (ev_var rfl) ev_c rfl rfl))) ?_ ?_
        · refine Rf.bd fun t69 h_t69 => ?_
          refine Rf.bd fun t70 h_t70 => ?_
          refine Rf.bd fun t71 h_t71 => ?_
          refine Rf.bd fun t72 h_t72 => ?_
          refine Rf.app (xs := t67) (t := (p_law_apart (t69, t70) (t71, t72))) eI rfl (ev_call (ev_args (ev_tup (ev_args (ev_mulP ev_c (ev_ix (ev_var rfl) ev_c rfl rfl) h_t69) (ev_args (ev_mulP ev_c (ev_ix (ev_var rfl) ev_c rfl rfl) h_t70) ev_args0 rfl) rfl)) (ev_args (ev_tup (ev_args (ev_mulP ev_c (ev_ix (ev_var rfl) ev_c rfl rfl) h_t71) (ev_args (ev_mulP ev_c (ev_ix (ev_var rfl) ev_c rfl rfl) h_t72) ev_args0 rfl) rfl)) ev_args0 rfl) rfl) (q_law_apart (t69, t70) (t71, t72) _)) rfl (fun _ => (sl_s (sl_s (sl_s (sl_s (sl_s (sl_s (sl_s (sl_s (sl_s (sl_s (sl_s (sl_s sl_z))))))))))))) fun v_found73 => ?_
          exact Rf.fin ⟨rfl, rfl⟩
        · refine Rf.skip ?_
          exact Rf.fin ⟨rfl, rfl⟩
      · rintro j68 _ ⟨rfl⟩
        refine Rf.frz rfl (sl_s (sl_s (sl_s (sl_s (sl_s (sl_s (sl_s (sl_s (sl_s (sl_s (sl_s (sl_s sl_z)))))))))))) ?_
        refine Rf.ite (tv (ev_eqI (ev_blt1 (ev_var rfl) (F_lenM (e := eI) rfl)) ev_c)) ?_ ?_
        · exact Rf.ret ev_c (by first | rfl | exact pureO (fun _ => rfl) _) ⟨.inl rfl, rfl⟩
        · refine Rf.skip ?_
          refine Rf.last ?_
          refine Rf.bd fun t74 h_t74 => ?_
          exact Rf.ret (ev_blt1 (ev_var rfl) (F_minR rfl h_t74)) (by first | rfl | exact pureO (fun _ => rfl) _) ⟨.inl rfl, rfl⟩
def p_neighbours (v_mesh : ((List (Unit × Int × Int × Int × Int × Int)) × (List (Unit × Int × Int × Int × Int × Int × Int)))) : Option (List (List (Int × Int))) :=
  (Pl.llNew (Int × Int) v_mesh.1.length).bind fun v_found1 =>
  (Pl.rngO 0 (v_mesh.2.length : Int)).bind fun t2 =>
  (Pl.forN (fun (x12 : Int) (s3 : (List (List (Int × Int)))) =>
  (Pl.at_ v_mesh.2 x12).bind fun t13 =>
  (Pl.llApp s3 t13.2.1 (x12, t13.2.2.1)).bind fun v_found14 =>
  (Pl.llApp v_found14 t13.2.2.1 (x12, t13.2.1)).bind fun v_found15 =>
  some (v_found15)) t2 (v_found1)).bind fun (s3 : (List (List (Int × Int)))) =>
  some s3
theorem q_neighbours {v_mesh : ((List (Unit × Int × Int × Int × Int × Int)) × (List (Unit × Int × Int × Int × Int × Int × Int)))} (h : List D) {r : (List (List (Int × Int)))} (hr : p_neighbours v_mesh = some r) : m_neighbours [(e2 (eL (e6 (eG "plate") eI eI eI eI (e1 eI))) (eL (e7 (eG "portal") eI eI eI eI eI eI))) v_mesh] h = some ((eL (eL (e2 eI eI))) r, h) := by
  refine gc_shL (e := (e2 eI eI)) (BlE.t2 BlE.I BlE.I) (by decide) (Rf.fn (o := p_neighbours v_mesh) (e := (fun r : (List (List (Int × Int))) => .lst (shL h.length r.length))) (hp := (fun r : (List (List (Int × Int))) => h ++ hcL (e2 eI eI) r)) (s := [.val ((e2 (eL (e6 (eG "plate") eI eI eI eI (e1 eI))) (eL (e7 (eG "portal") eI eI eI eI eI eI))) v_mesh), .no, .no, .no, .no, .no, .no, .no, .no, .no, .no, .no]) rfl rfl ?_ hr)
  unfold p_neighbours b_neighbours
  refine Rf.asg0 (d := (e2 (eL (e6 (eG "plate") eI eI eI eI (e1 eI))) (eL (e7 (eG "portal") eI eI eI eI eI eI))) v_mesh) (ev_var rfl) rfl (gr_tp (gr_cons (gr_nm (sl_s sl_z)) (gr_cons (gr_nm (sl_s (sl_s sl_z))) gr_nil))) ?_
  refine Rf.llNew (x0 := .no) (e2 eI eI) (ev_itsC (e := (e6 (eG "plate") eI eI eI eI (e1 eI))) (xs := v_mesh.1) (ev_var rfl) rfl) (List.length_map _) rfl rfl (fun _ => (sl_s (sl_s (sl_s sl_z)))) fun v_found1 => ?_
  refine Rf.bd fun t2 h_t2 => ?_
  refine Rf.thn (fun (s3 : (List (List (Int × Int)))) z' => ∃ X4 : Option D, ∃ X5 : Option D, ∃ X6 : Option D, ∃ X7 : Option D, ∃ X8 : Option D, ∃ X9 : Option D, ∃ X10 : Option D, ∃ X11 : Option D, z' = ⟨[.val ((e2 (eL (e6 (eG "plate") eI eI eI eI (e1 eI))) (eL (e7 (eG "portal") eI eI eI eI eI eI))) v_mesh), .val ((eL (e6 (eG "plate") eI eI eI eI (e1 eI))) v_mesh.1), .val ((eL (e7 (eG "portal") eI eI eI eI eI eI)) v_mesh.2), .val (.lst (shL h.length s3.length)), (sv X5), (sv X4), (sv X6), (sv X7), (sv X8), (sv X9), (sv X10), (sv X11)], (h ++ hcL (e2 eI eI) s3)⟩) (Rf.forN (xs := t2) (v := (v_found1)) eI (fun (s3 : (List (List (Int × Int)))) z' => ∃ X4 : Option D, ∃ X5 : Option D, ∃ X6 : Option D, ∃ X7 : Option D, ∃ X8 : Option D, ∃ X9 : Option D, ∃ X10 : Option D, ∃ X11 : Option D, z' = ⟨[.val ((e2 (eL (e6 (eG "plate") eI eI eI eI (e1 eI))) (eL (e7 (eG "portal") eI eI eI eI eI eI))) v_mesh), .val ((eL (e6 (eG "plate") eI eI eI eI (e1 eI))) v_mesh.1), .val ((eL (e7 (eG "portal") eI eI eI eI eI eI)) v_mesh.2), .val (.lst (shL h.length s3.length)), (sv X5), (sv X4), (sv X6), (sv X7), (sv X8), (sv X9), (sv X10), (sv X11)], (h ++ hcL (e2 eI eI) s3)⟩) (ev_rngP1 (ev_blt1 (ev_var rfl) (F_lenM (e := (e7 (eG "portal") eI eI eI eI eI eI)) rfl)) h_t2) ⟨none, none, none, none, none, none, none, none, rfl⟩ fun x12 s3 z' hz => ?_) ?_
  · obtain ⟨X4, X5, X6, X7, X8, X9, X10, X11, rfl⟩ := hz
    refine ⟨_, (gr_nm (sl_s (sl_s (sl_s (sl_s (sl_s sl_z)))))), ?_⟩
    refine Rf.bd fun t13 h_t13 => ?_
    refine Rf.asg0 (d := (e7 (eG "portal") eI eI eI eI eI eI) t13) (ev_ixP (e := (e7 (eG "portal") eI eI eI eI eI eI)) (ev_var rfl) (ev_var rfl) rfl h_t13) rfl (gr_tp (gr_cons (gr_nm (sl_s (sl_s (sl_s (sl_s sl_z))))) (gr_cons (gr_nm (sl_s (sl_s (sl_s (sl_s (sl_s (sl_s sl_z))))))) (gr_cons (gr_nm (sl_s (sl_s (sl_s (sl_s (sl_s (sl_s (sl_s sl_z)))))))) (gr_cons (gr_nm (sl_s (sl_s (sl_s (sl_s (sl_s (sl_s (sl_s (sl_s sl_z))))))))) (gr_cons (gr_nm (sl_s (sl_s (sl_s (sl_s (sl_s (sl_s (sl_s (sl_s (sl_s sl_z)))))))))) (gr_cons (gr_nm (sl_s (sl_s (sl_s (sl_s (sl_s (sl_s (sl_s (sl_s (sl_s (sl_s sl_z))))))))))) (gr_cons (gr_nm (sl_s (sl_s (sl_s (sl_s (sl_s (sl_s (sl_s (sl_s (sl_s (sl_s (sl_s sl_z)))))))))))) gr_nil)))))))) ?_
    refine Rf.llApp (xss := s3) (j := t13.2.1) (v := (x12, t13.2.2.1)) (e2 eI eI) rfl (fun _ => (sl_s (sl_s (sl_s sl_z)))) (ev_var rfl) (ev_tup (ev_args (ev_var rfl) (ev_args (ev_var rfl) ev_args0 rfl) rfl)) rfl fun v_found14 => ?_
    refine Rf.last ?_
    refine Rf.llApp (xss := v_found14) (j := t13.2.2.1) (v := (x12, t13.2.1)) (e2 eI eI) rfl (fun _ => (sl_s (sl_s (sl_s sl_z)))) (ev_var rfl) (ev_tup (ev_args (ev_var rfl) (ev_args (ev_var rfl) ev_args0 rfl) rfl)) rfl fun v_found15 => ?_
    exact Rf.fin ⟨.inl rfl, (some (eI x12)), (some ((eG "portal") t13.1)), (some (eI t13.2.1)), (some (eI t13.2.2.1)), (some (eI t13.2.2.2.1)), (some (eI t13.2.2.2.2.1)), (some (eI t13.2.2.2.2.2.1)), (some (eI t13.2.2.2.2.2.2)), rfl⟩
  · rintro s3 _ ⟨X4, X5, X6, X7, X8, X9, X10, X11, rfl⟩
    refine Rf.last ?_
    exact Rf.ret (ev_var rfl) rfl ⟨.inl rfl, rfl⟩
def p_next_open (v_waiting : (List (Int × (List Int) × Int × (Int × Int)))) : Option Int :=
  (Pl.rngO 0 (v_waiting.length : Int)).bind fun t1 =>
  (Pl.forN (fun (x4 : Int) (s2 : Int) =>
  (Pl.at_ v_waiting x4).bind fun t5 =>
  (Pl.at_ v_waiting s2).bind fun t6 =>
  ((if (decide (t5.1 < t6.1)) = true then
  some (x4)
  else
  some (s2)) : Option (Int)).bind fun j7 =>
  some (j7)) t1 ((0 : Int))).bind fun (s2 : Int) =>
  some s2
theorem q_next_open {v_waiting : (List (Int × (List Int) × Int × (Int × Int)))} (h : List D) {r : Int} (hr : p_next_open v_waiting = some r) : m_next_open [(eSc (e4 eI (eL eI) eI (e2 eI eI))) v_waiting] h = some (eI r, h) := by
  refine Rf.fn (o := p_next_open v_waiting) (e := eI) (hp := (fun _ : Int => h)) (s := [.val ((eSc (e4 eI (eL eI) eI (e2 eI eI))) v_waiting), .no, .no]) rfl rfl ?_ hr
  unfold p_next_open b_next_open
  refine Rf.set0 (d := eI (0 : Int)) ev_c rfl (sl_s sl_z) ?_
  refine Rf.bd fun t1 h_t1 => ?_
  refine Rf.thn (fun (s2 : Int) z' => ∃ X3 : Option D, z' = ⟨[.val ((eSc (e4 eI (eL eI) eI (e2 eI eI))) v_waiting), .val (eI s2), (sv X3)], h⟩) (Rf.forN (xs := t1) (v := ((0 : Int))) eI (fun (s2 : Int) z' => ∃ X3 : Option D, z' = ⟨[.val ((eSc (e4 eI (eL eI) eI (e2 eI eI))) v_waiting), .val (eI s2), (sv X3)], h⟩) (ev_rngP1 (ev_blt1 (ev_var rfl) (F_lenM (e := (e4 eI (eL eI) eI (e2 eI eI))) rfl)) h_t1) ⟨none, rfl⟩ fun x4 s2 z' hz => ?_) ?_
  · obtain ⟨X3, rfl⟩ := hz
    refine ⟨_, (gr_nm (sl_s (sl_s sl_z))), ?_⟩
    refine Rf.last ?_
    refine Rf.bd fun t5 h_t5 => ?_
    refine Rf.bd fun t6 h_t6 => ?_
    refine Rf.thn (β := Int) (fun j7 z' => z' = ⟨[.val ((eSc (e4 eI (eL eI) eI (e2 eI eI))) v_waiting), .val (eI j7), .val (eI x4)], h⟩) ?_ ?_
    · refine Rf.last ?_
      refine Rf.ite (tv (ev_lt (ev_ix (ev_ixP (e := (e4 eI (eL eI) eI (e2 eI eI))) (ev_var rfl) (ev_var rfl) rfl h_t5) ev_c rfl rfl) (ev_ix (ev_ixP (e := (e4 eI (eL eI) eI (e2 eI eI))) (ev_var rfl) (ev_var rfl) rfl h_t6) ev_c rfl rfl))) ?_ ?_
      · refine Rf.set0 (d := eI x4) (ev_var rfl) rfl (sl_s sl_z) ?_
        exact Rf.fin ⟨rfl, rfl⟩
      · refine Rf.skip ?_
        exact Rf.fin ⟨rfl, rfl⟩
    · rintro j7 _ ⟨rfl⟩
      exact Rf.fin ⟨.inl rfl, (some (eI x4)), rfl⟩
  · rintro s2 _ ⟨X3, rfl⟩
    refine Rf.last ?_
    exact Rf.ret (ev_var rfl) rfl ⟨.inl rfl, rfl⟩
def p_doubled_middle (v_portal : (Unit × Int × Int × Int × Int × Int × Int)) : (Int × Int) :=
  ((v_portal.2.2.2.1 + v_portal.2.2.2.2.2.1), (v_portal.2.2.2.2.1 + v_portal.2.2.2.2.2.2))
theorem q_doubled_middle (v_portal : (Unit × Int × Int × Int × Int × Int × Int)) (h : List D) : m_doubled_middle [(e7 (eG "portal") eI eI eI eI eI eI) v_portal] h = some ((e2 eI eI) (p_doubled_middle v_portal), h) := by
  refine Rf.fn (o := some (p_doubled_middle v_portal)) (e := (e2 eI eI)) (hp := fun _ => h) (s := [.val ((e7 (eG "portal") eI eI eI eI eI eI) v_portal)]) rfl rfl ?_ rfl
  unfold p_doubled_middle b_doubled_middle
  refine Rf.last ?_
  exact Rf.ret (ev_tup (ev_args (ev_add (ev_ix (ev_var rfl) ev_c rfl rfl) (ev_ix (ev_var rfl) ev_c rfl rfl)) (ev_args (ev_add (ev_ix (ev_var rfl) ev_c rfl rfl) (ev_ix (ev_var rfl) ev_c rfl rfl)) ev_args0 rfl) rfl)) rfl ⟨.inl rfl, rfl⟩
def p_apart (v_one : (Int × Int)) (v_other : (Int × Int)) : Int :=
  ((if (v_one.1 - v_other.1) < 0 then -(v_one.1 - v_other.1) else (v_one.1 - v_other.1)) + (if (v_one.2 - v_other.2) < 0 then -(v_one.2 - v_other.2) else (v_one.2 - v_other.2)))
theorem q_apart (v_one : (Int × Int)) (v_other : (Int × Int)) (h : List D) : m_apart [(e2 eI eI) v_one, (e2 eI eI) v_other] h = some (eI (p_apart v_one v_other), h) := by
  refine Rf.fn (o := some (p_apart v_one v_other)) (e := eI) (hp := fun _ => h) (s := [.val ((e2 eI eI) v_one), .val ((e2 eI eI) v_other)]) rfl rfl ?_ rfl
  unfold p_apart b_apart
  refine Rf.last ?_
  exact Rf.ret (ev_add (ev_blt1 (ev_sub (ev_ix (ev_var rfl) ev_c rfl rfl) (ev_ix (ev_var rfl) ev_c rfl rfl)) lf_abs) (ev_blt1 (ev_sub (ev_ix (ev_var rfl) ev_c rfl rfl) (ev_ix (ev_var rfl) ev_c rfl rfl)) lf_abs)) rfl ⟨.inl rfl, rfl⟩
def p_cheapest (v_mesh : ((List (Unit × Int × Int × Int × Int × Int)) × (List (Unit × Int × Int × Int × Int × Int × Int)))) (v_start : (Int × Int × Int)) (v_goal : (Int × Int × Int)) : Option (Option (Int × (List Int))) :=
  (p_neighbours v_mesh).bind fun t1 =>
  (Pl.mul (2 : Int) v_start.1).bind fun t2 =>
  (Pl.mul (2 : Int) v_start.2.1).bind fun t3 =>
  (some ([((0 : Int), ([] : List Int), v_start.2.2, (t2, t3))])).bind fun v_waiting4 =>
  (Pl.mul (2 : Int) v_goal.1).bind fun t5 =>
  (Pl.mul (2 : Int) v_goal.2.1).bind fun t6 =>
  (some ((t5, t6))).bind fun v_end7 =>
  ((Pl.whO (fun (s8 : (List (Int × (Int × Int))) × (List (Int × (List Int) × Int × (Int × Int))) × (Option (Int × (List Int)))) => (some (!s8.2.1.isEmpty))) (fun (s8 : (List (Int × (Int × Int))) × (List (Int × (List Int) × Int × (Int × Int))) × (Option (Int × (List Int)))) =>
  (p_next_open s8.2.1).bind fun t17 =>
  (Pl.popAt s8.2.1 t17).bind fun u18 =>
  (Pl.andO s8.2.2.isSome ((s8.2.2).bind fun t19 => some (decide (t19.1 ≤ u18.1.1)))).bind fun t20 =>
  (if t20 = true then
  some (.ret s8.2.2)
  else
  (if (s8.1.any fun j => decide (j = (u18.1.2.2.1, u18.1.2.2.2))) = true then
  some (.go (s8.1, u18.2, s8.2.2))
  else
  (Pl.nput s8.1 (u18.1.2.2.1, u18.1.2.2.2)).bind fun v_done21 =>
  (Pl.andO (decide (u18.1.2.2.1 = v_goal.2.2)) ((Pl.orO s8.2.2.isNone ((s8.2.2).bind fun t22 => some (decide ((u18.1.1 + (p_apart u18.1.2.2.2 v_end7)) < t22.1)))).bind fun t23 => some t23)).bind fun t24 =>
  ((if t24 = true then
  (some ((some ((u18.1.1 + (p_apart u18.1.2.2.2 v_end7)), u18.1.2.1)))).bind fun v_best26 =>
  some (v_best26)
  else
  some (s8.2.2)) : Option ((Option (Int × (List Int))))).bind fun j25 =>
  (Pl.at_ t1 u18.1.2.2.1).bind fun t27 =>
  (Pl.forN (fun (x32 : (Int × Int)) (s28 : (List (Int × (List Int) × Int × (Int × Int)))) =>
  (Pl.at_ v_mesh.2 x32.1).bind fun t33 =>
  (some ((p_doubled_middle t33))).bind fun v_middle34 =>
  ((if ((!v_done21.any fun j => decide (j = (x32.2, v_middle34))) && (!decide ((N.cutL u18.1.2.1 (some (-(1 : Int))) none) = [x32.1]))) = true then
  (Pl.cat u18.1.2.1 [x32.1]).bind fun t36 =>
  (Pl.app s28 ((u18.1.1 + (p_apart u18.1.2.2.2 v_middle34)), t36, x32.2, v_middle34)).bind fun v_waiting37 =>
  some (v_waiting37)
  else
  some (s28)) : Option ((List (Int × (List Int) × Int × (Int × Int))))).bind fun j35 =>
  some (j35)) t27 (u18.2)).bind fun (s28 : (List (Int × (List Int) × Int × (Int × Int)))) =>
  some (.go (v_done21, s28, j25))))) (([] : (List (Int × (Int × Int)))), v_waiting4, none)) : Option (((List (Int × (Int × Int))) × (List (Int × (List Int) × Int × (Int × Int))) × (Option (Int × (List Int)))) ⊕ (Option (Int × (List Int))))).bind (Pl.out (fun (s8 : (List (Int × (Int × Int))) × (List (Int × (List Int) × Int × (Int × Int))) × (Option (Int × (List Int)))) =>
  some s8.2.2) (fun r => some r))
theorem q_cheapest {v_mesh : ((List (Unit × Int × Int × Int × Int × Int)) × (List (Unit × Int × Int × Int × Int × Int × Int)))} {v_start : (Int × Int × Int)} {v_goal : (Int × Int × Int)} (h : List D) {r : (Option (Int × (List Int)))} (hr : p_cheapest v_mesh v_start v_goal = some r) : m_cheapest [(e2 (eL (e6 (eG "plate") eI eI eI eI (e1 eI))) (eL (e7 (eG "portal") eI eI eI eI eI eI))) v_mesh, (e3 eI eI eI) v_start, (e3 eI eI eI) v_goal] h = some ((eO (e2 eI (eL eI))) r, h) := by
  refine Rf.fn (o := p_cheapest v_mesh v_start v_goal) (e := (eO (e2 eI (eL eI)))) (hp := (fun _ : (Option (Int × (List Int))) => h)) (s := [.val ((e2 (eL (e6 (eG "plate") eI eI eI eI (e1 eI))) (eL (e7 (eG "portal") eI eI eI eI eI eI))) v_mesh), .val ((e3 eI eI eI) v_start), .val ((e3 eI eI eI) v_goal), .no, .no, .no, .no, .no, .no, .no, .no, .no, .no, .no, .no]) rfl rfl ?_ hr
  unfold p_cheapest b_cheapest
  refine Rf.bd fun t1 h_t1 => ?_
  refine Rf.set0 (d := (eL (eL (e2 eI eI))) t1) (ev_call (ev_args (ev_var rfl) ev_args0 rfl) (q_neighbours _ h_t1)) rfl (sl_s (sl_s (sl_s sl_z))) ?_
  refine Rf.set0 (d := (eO (e2 eI (eL eI))) none) ev_c (by first | rfl | exact pureO (fun _ => rfl) _) (sl_s (sl_s (sl_s (sl_s sl_z)))) ?_
  refine Rf.ownD (d := (eNk (n2 nI (n2 nI nI))) ([] : (List (Int × (Int × Int))))) rfl (Nat.le_of_ble_eq_true rfl) (sl_s (sl_s (sl_s (sl_s (sl_s sl_z))))) ?_
  refine Rf.bd fun t2 h_t2 => ?_
  refine Rf.bd fun t3 h_t3 => ?_
  refine Rf.ownT (t := [((0 : Int), ([] : List Int), v_start.2.2, (t2, t3))]) (e4 eI (eL eI) eI (e2 eI eI)) (ev_disp (ev_args (ev_tup (ev_args ev_c (ev_args (ev_frz (ev_disp ev_args0)) (ev_args (ev_ix (ev_var rfl) ev_c rfl rfl) (ev_args (ev_tup (ev_args (ev_mulP ev_c (ev_ix (ev_var rfl) ev_c rfl rfl) h_t2) (ev_args (ev_mulP ev_c (ev_ix (ev_var rfl) ev_c rfl rfl) h_t3) ev_args0 rfl) rfl)) ev_args0 rfl) rfl) rfl) rfl)) ev_args0 rfl)) (Nat.le_of_ble_eq_true rfl) (fun _ => (sl_s (sl_s (sl_s (sl_s (sl_s (sl_s sl_z))))))) fun v_waiting4 => ?_
  refine Rf.bd fun t5 h_t5 => ?_
  refine Rf.bd fun t6 h_t6 => ?_
  refine Rf.setT (t := (t5, t6)) (e2 eI eI) (ev_tup (ev_args (ev_mulP ev_c (ev_ix (ev_var rfl) ev_c rfl rfl) h_t5) (ev_args (ev_mulP ev_c (ev_ix (ev_var rfl) ev_c rfl rfl) h_t6) ev_args0 rfl) rfl)) (fun _ => rfl) (fun _ => (sl_s (sl_s (sl_s (sl_s (sl_s (sl_s (sl_s sl_z)))))))) fun v_end7 => ?_
  refine Rf.thnX (fun (s8 : (List (Int × (Int × Int))) × (List (Int × (List Int) × Int × (Int × Int))) × (Option (Int × (List Int)))) z' => ∃ X9 : Option D, ∃ X10 : Option D, ∃ X11 : Option D, ∃ X12 : Option D, ∃ X13 : Option D, ∃ X14 : Option D, ∃ X15 : Option D, z' = ⟨[.val ((e2 (eL (e6 (eG "plate") eI eI eI eI (e1 eI))) (eL (e7 (eG "portal") eI eI eI eI eI eI))) v_mesh), .val ((e3 eI eI eI) v_start), .val ((e3 eI eI eI) v_goal), .val ((eL (eL (e2 eI eI))) t1), .val ((eO (e2 eI (eL eI))) s8.2.2), .own ((eNk (n2 nI (n2 nI nI))) s8.1), .own (.lst (List.map (e4 eI (eL eI) eI (e2 eI eI)) s8.2.1)), .val ((e2 eI eI) v_end7), (sv X9), (sv X10), (sv X11), (sv X12), (sv X13), (sv X14), (sv X15)], h⟩) (fun (r : (Option (Int × (List Int)))) f z' => (f = .rt ((eO (e2 eI (eL eI))) r) ∨ (f = .nx ∧ (eO (e2 eI (eL eI))) r = .non)) ∧ z'.h = (fun _ : (Option (Int × (List Int))) => h) r) (Rf.whO (v := (([] : (List (Int × (Int × Int)))), v_waiting4, none)) (fun (s8 : (List (Int × (Int × Int))) × (List (Int × (List Int) × Int × (Int × Int))) × (Option (Int × (List Int)))) z' => ∃ X9 : Option D, ∃ X10 : Option D, ∃ X11 : Option D, ∃ X12 : Option D, ∃ X13 : Option D, ∃ X14 : Option D, ∃ X15 : Option D, z' = ⟨[.val ((e2 (eL (e6 (eG "plate") eI eI eI eI (e1 eI))) (eL (e7 (eG "portal") eI eI eI eI eI eI))) v_mesh), .val ((e3 eI eI eI) v_start), .val ((e3 eI eI eI) v_goal), .val ((eL (eL (e2 eI eI))) t1), .val ((eO (e2 eI (eL eI))) s8.2.2), .own ((eNk (n2 nI (n2 nI nI))) s8.1), .own (.lst (List.map (e4 eI (eL eI) eI (e2 eI eI)) s8.2.1)), .val ((e2 eI eI) v_end7), (sv X9), (sv X10), (sv X11), (sv X12), (sv X13), (sv X14), (sv X15)], h⟩) (fun (r : (Option (Int × (List Int)))) f z' => (f = .rt ((eO (e2 eI (eL eI))) r) ∨ (f = .nx ∧ (eO (e2 eI (eL eI))) r = .non)) ∧ z'.h = (fun _ : (Option (Int × (List Int))) => h) r) ?_ ?_ ⟨none, none, none, none, none, none, none, rfl⟩) ?_ ?_
  · rintro s8 _ ⟨X9, X10, X11, X12, X13, X14, X15, rfl⟩ p hp
    cases hp; exact ⟨_, (tt_tru (ev_varO rfl) (tru_own rfl)), X9, X10, X11, X12, X13, X14, X15, rfl⟩
  · rintro s8 _ ⟨X9, X10, X11, X12, X13, X14, X15, rfl⟩
    refine Rf.bd fun t17 h_t17 => ?_
    refine Rf.popAtG (xs := s8.2.1) (j := t17) (e4 eI (eL eI) eI (e2 eI eI)) rfl (ev_lkLP (e4 eI (eL eI) eI (e2 eI eI)) rfl (q_next_open _ h_t17) (fun x => (BlE.mono (e := (e4 eI (eL eI) eI (e2 eI eI))) (BlE.t4 (BlE.mono BlE.I (by decide : 0 ≤ 1)) (BlE.L BlE.I) (BlE.mono BlE.I (by decide : 0 ≤ 1)) (BlE.t2 BlE.I BlE.I)) (by decide : 2 ≤ 12)) _ _) rfl) (fun _ => rfl) (s1 := fun u18 => [.val ((e2 (eL (e6 (eG "plate") eI eI eI eI (e1 eI))) (eL (e7 (eG "portal") eI eI eI eI eI eI))) v_mesh), .val ((e3 eI eI eI) v_start), .val ((e3 eI eI eI) v_goal), .val ((eL (eL (e2 eI eI))) t1), .val ((eO (e2 eI (eL eI))) s8.2.2), .own ((eNk (n2 nI (n2 nI nI))) s8.1), .own (.lst (List.map (e4 eI (eL eI) eI (e2 eI eI)) u18.2)), .val ((e2 eI eI) v_end7), (sv X9), (sv X10), (sv X11), (sv X12), (sv X13), (sv X14), (sv X15)]) (fun _ => (sl_s (sl_s (sl_s (sl_s (sl_s (sl_s sl_z))))))) (fun u18 => (gr_tp (gr_cons (gr_nm (sl_s (sl_s (sl_s (sl_s (sl_s (sl_s (sl_s (sl_s sl_z))))))))) (gr_cons (gr_nm (sl_s (sl_s (sl_s (sl_s (sl_s (sl_s (sl_s (sl_s (sl_s sl_z)))))))))) (gr_cons (gr_nm (sl_s (sl_s (sl_s (sl_s (sl_s (sl_s (sl_s (sl_s (sl_s (sl_s sl_z))))))))))) (gr_cons (gr_nm (sl_s (sl_s (sl_s (sl_s (sl_s (sl_s (sl_s (sl_s (sl_s (sl_s (sl_s sl_z)))))))))))) gr_nil)))))) fun u18 => ?_
    refine Rf.bd fun t20 h_t20 => ?_
    refine Rf.ite (tt_andO (tv (ev_notN (ev_var rfl) (notNonE (fun _ => rfl) _))) (fun q hq => by obtain ⟨t19, h_t19, hq⟩ := bI hq; cases hq; exact (tv (ev_ge (ev_var rfl) (ev_ix (ev_unO (ev_var rfl) h_t19) ev_c rfl rfl)))) h_t20) ?_ ?_
    · exact Rf.ret (ev_var rfl) (by first | rfl | exact pureO (fun _ => rfl) _) ⟨⟨_, rfl⟩, .inl rfl, rfl⟩
    · refine Rf.skip ?_
      refine Rf.ite (tv (ev_ninP (n2 nI (n2 nI nI)) (by decide) (fun _ => rfl) (ev_tup (ev_args (ev_var rfl) (ev_args (ev_var rfl) ev_args0 rfl) rfl)) (ev_varO rfl) rfl)) ?_ ?_
      · exact Rf.cnt ⟨.inr rfl, (some (eI u18.1.1)), (some ((eL eI) u18.1.2.1)), (some (eI u18.1.2.2.1)), (some ((e2 eI eI) u18.1.2.2.2)), X13, X14, X15, rfl⟩
      · refine Rf.skip ?_
        refine Rf.nput (n2 nI (n2 nI nI)) (by decide) (fun _ => rfl) (xs := s8.1) (k0 := (u18.1.2.2.1, u18.1.2.2.2)) ev_c (ev_varO rfl) (ev_tup (ev_args (ev_var rfl) (ev_args (ev_var rfl) ev_args0 rfl) rfl)) rfl (fun _ => (sl_s (sl_s (sl_s (sl_s (sl_s sl_z)))))) fun v_done21 => ?_
        refine Rf.bd fun t24 h_t24 => ?_
        refine Rf.thn (β := (Option (Int × (List Int)))) (fun j25 z' => z' = ⟨[.val ((e2 (eL (e6 (eG "plate") eI eI eI eI (e1 eI))) (eL (e7 (eG "portal") eI eI eI eI eI eI))) v_mesh), .val ((e3 eI eI eI) v_start), .val ((e3 eI eI eI) v_goal), .val ((eL (eL (e2 eI eI))) t1), .val ((eO (e2 eI (eL eI))) j25), .own ((eNk (n2 nI (n2 nI nI))) v_done21), .own (.lst (List.map (e4 eI (eL eI) eI (e2 eI eI)) u18.2)), .val ((e2 eI eI) v_end7), .val (eI u18.1.1), .val ((eL eI) u18.1.2.1), .val (eI u18.1.2.2.1), .val ((e2 eI eI) u18.1.2.2.2), (sv X13), (sv X14), (sv X15)], h⟩) ?_ ?_
        · refine Rf.last ?_
          refine Rf.ite (tt_andO (tv (ev_eqI (ev_var rfl) (ev_ix (ev_var rfl) ev_c rfl rfl))) (fun q hq => by obtain ⟨t23, h_t23, hq⟩ := bI hq; cases hq; exact (tt_orO (tv (ev_isN (ev_var rfl) (nonE (fun _ => rfl) _))) (fun q hq => by obtain ⟨t22, h_t22, hq⟩ := bI hq; cases hq; exact (tv (ev_lt (ev_add (ev_var rfl) (ev_call (ev_args (ev_var rfl) (ev_args (ev_var rfl) ev_args0 rfl) rfl) (q_apart u18.1.2.2.2 v_end7 _))) (ev_ix (ev_unO (ev_var rfl) h_t22) ev_c rfl rfl)))) h_t23)) h_t24) ?_ ?_
          · refine Rf.setT (t := (some ((u18.1.1 + (p_apart u18.1.2.2.2 v_end7)), u18.1.2.1))) (eO (e2 eI (eL eI))) (ev_tup (ev_args (ev_add (ev_var rfl) (ev_call (ev_args (ev_var rfl) (ev_args (ev_var rfl) ev_args0 rfl) rfl) (q_apart u18.1.2.2.2 v_end7 _))) (ev_args (ev_var rfl) ev_args0 rfl) rfl)) (pureO (fun _ => rfl)) (fun _ => (sl_s (sl_s (sl_s (sl_s sl_z))))) fun v_best26 => ?_
            exact Rf.fin ⟨rfl, rfl⟩
          · refine Rf.skip ?_
            exact Rf.fin ⟨rfl, rfl⟩
        · rintro j25 _ ⟨rfl⟩
          refine Rf.last ?_
          refine Rf.bd fun t27 h_t27 => ?_
          refine Rf.thn (fun (s28 : (List (Int × (List Int) × Int × (Int × Int)))) z' => ∃ X29 : Option D, ∃ X30 : Option D, ∃ X31 : Option D, z' = ⟨[.val ((e2 (eL (e6 (eG "plate") eI eI eI eI (e1 eI))) (eL (e7 (eG "portal") eI eI eI eI eI eI))) v_mesh), .val ((e3 eI eI eI) v_start), .val ((e3 eI eI eI) v_goal), .val ((eL (eL (e2 eI eI))) t1), .val ((eO (e2 eI (eL eI))) j25), .own ((eNk (n2 nI (n2 nI nI))) v_done21), .own (.lst (List.map (e4 eI (eL eI) eI (e2 eI eI)) s28)), .val ((e2 eI eI) v_end7), .val (eI u18.1.1), .val ((eL eI) u18.1.2.1), .val (eI u18.1.2.2.1), .val ((e2 eI eI) u18.1.2.2.2), (sv X29), (sv X30), (sv X31)], h⟩) (Rf.forN (xs := t27) (v := (u18.2)) (e2 eI eI) (fun (s28 : (List (Int × (List Int) × Int × (Int × Int)))) z' => ∃ X29 : Option D, ∃ X30 : Option D, ∃ X31 : Option D, z' = ⟨[.val ((e2 (eL (e6 (eG "plate") eI eI eI eI (e1 eI))) (eL (e7 (eG "portal") eI eI eI eI eI eI))) v_mesh), .val ((e3 eI eI eI) v_start), .val ((e3 eI eI eI) v_goal), .val ((eL (eL (e2 eI eI))) t1), .val ((eO (e2 eI (eL eI))) j25), .own ((eNk (n2 nI (n2 nI nI))) v_done21), .own (.lst (List.map (e4 eI (eL eI) eI (e2 eI eI)) s28)), .val ((e2 eI eI) v_end7), .val (eI u18.1.1), .val ((eL eI) u18.1.2.1), .val (eI u18.1.2.2.1), .val ((e2 eI eI) u18.1.2.2.2), (sv X29), (sv X30), (sv X31)], h⟩) (ev_itsP (e := (e2 eI eI)) (xs := t27) (ev_ixP (e := (eL (e2 eI eI))) (ev_var rfl) (ev_var rfl) rfl h_t27) rfl) ⟨X13, X14, X15, rfl⟩ fun x32 s28 z' hz => ?_) ?_
          · obtain ⟨X29, X30, X31, rfl⟩ := hz
            refine ⟨_, (gr_tp (gr_cons (gr_nm (sl_s (sl_s (sl_s (sl_s (sl_s (sl_s (sl_s (sl_s (sl_s (sl_s (sl_s (sl_s sl_z))))))))))))) (gr_cons (gr_nm (sl_s (sl_s (sl_s (sl_s (sl_s (sl_s (sl_s (sl_s (sl_s (sl_s (sl_s (sl_s (sl_s sl_z)))))))))))))) gr_nil))), ?_⟩
            refine Rf.bd fun t33 h_t33 => ?_
            refine Rf.setT (t := (p_doubled_middle t33)) (e2 eI eI) (ev_call (ev_args (ev_ixP (e := (e7 (eG "portal") eI eI eI eI eI eI)) (ev_ix (ev_var rfl) ev_c rfl rfl) (ev_var rfl) rfl h_t33) ev_args0 rfl) (q_doubled_middle t33 _)) (fun _ => rfl) (fun _ => (sl_s (sl_s (sl_s (sl_s (sl_s (sl_s (sl_s (sl_s (sl_s (sl_s (sl_s (sl_s (sl_s (sl_s sl_z))))))))))))))) fun v_middle34 => ?_
            refine Rf.last ?_
            refine Rf.thn (β := (List (Int × (List Int) × Int × (Int × Int)))) (fun j35 z' => z' = ⟨[.val ((e2 (eL (e6 (eG "plate") eI eI eI eI (e1 eI))) (eL (e7 (eG "portal") eI eI eI eI eI eI))) v_mesh), .val ((e3 eI eI eI) v_start), .val ((e3 eI eI eI) v_goal), .val ((eL (eL (e2 eI eI))) t1), .val ((eO (e2 eI (eL eI))) j25), .own ((eNk (n2 nI (n2 nI nI))) v_done21), .own (.lst (List.map (e4 eI (eL eI) eI (e2 eI eI)) j35)), .val ((e2 eI eI) v_end7), .val (eI u18.1.1), .val ((eL eI) u18.1.2.1), .val (eI u18.1.2.2.1), .val ((e2 eI eI) u18.1.2.2.2), .val (eI x32.1), .val (eI x32.2), .val ((e2 eI eI) v_middle34)], h⟩) ?_ ?_
            · refine Rf.last ?_
              refine Rf.ite (tt_and (tv (ev_nnotInP (n2 nI (n2 nI nI)) (by decide) (fun _ => rfl) (ev_tup (ev_args (ev_var rfl) (ev_args (ev_var rfl) ev_args0 rfl) rfl)) (ev_varO rfl) rfl)) fun _ => (tv (ev_ne (ev_frz (ev_sliceP (e := eI) (ev_var rfl) (ev_part (ev_neg ev_c)) ev_part0 rfl)) (ev_frz (ev_disp (ev_args (ev_var rfl) ev_args0 rfl))) (EqN.eqP (e := (eL eI)) (EqN.L EqN.I) (by decide) (N.cutL u18.1.2.1 (some (-(1 : Int))) none) [x32.1] _ rfl rfl)))) ?_ ?_
              · refine Rf.bd fun t36 h_t36 => ?_
                refine Rf.app (xs := s28) (t := ((u18.1.1 + (p_apart u18.1.2.2.2 v_middle34)), t36, x32.2, v_middle34)) (e4 eI (eL eI) eI (e2 eI eI)) rfl (ev_tup (ev_args (ev_add (ev_var rfl) (ev_call (ev_args (ev_var rfl) (ev_args (ev_var rfl) ev_args0 rfl) rfl) (q_apart u18.1.2.2.2 v_middle34 _))) (ev_args (ev_frz (ev_catP (e := eI) (ev_var rfl) (ev_frz (ev_disp (ev_args (ev_var rfl) ev_args0 rfl))) rfl rfl rfl rfl h_t36)) (ev_args (ev_var rfl) (ev_args (ev_var rfl) ev_args0 rfl) rfl) rfl) rfl)) rfl (fun _ => (sl_s (sl_s (sl_s (sl_s (sl_s (sl_s sl_z))))))) fun v_waiting37 => ?_
                exact Rf.fin ⟨rfl, rfl⟩
              · refine Rf.skip ?_
                exact Rf.fin ⟨rfl, rfl⟩
            · rintro j35 _ ⟨rfl⟩
              exact Rf.fin ⟨.inl rfl, (some (eI x32.1)), (some (eI x32.2)), (some ((e2 eI eI) v_middle34)), rfl⟩
          · rintro s28 _ ⟨X29, X30, X31, rfl⟩
            exact Rf.fin ⟨.inl rfl, (some (eI u18.1.1)), (some ((eL eI) u18.1.2.1)), (some (eI u18.1.2.2.1)), (some ((e2 eI eI) u18.1.2.2.2)), X29, X30, X31, rfl⟩
  · rintro s8 _ ⟨X9, X10, X11, X12, X13, X14, X15, rfl⟩
    refine Rf.last ?_
    exact Rf.ret (ev_var rfl) (by first | rfl | exact pureO (fun _ => rfl) _) ⟨.inl rfl, rfl⟩
  · intro r r' f z' hk hr; cases hk; exact hr.2
def p_plates_of (v_mesh : ((List (Unit × Int × Int × Int × Int × Int)) × (List (Unit × Int × Int × Int × Int × Int × Int)))) (v_start : Int) (v_way : (List Int)) : Option (Option (List Int)) :=
  (some ([v_start])).bind fun v_found1 =>
  ((Pl.forO (fun (x6 : Int) (s2 : (List Int)) =>
  (Pl.at_ v_mesh.2 x6).bind fun t7 =>
  (some ((t7.2.1, t7.2.2.1))).bind fun u8 =>
  (Pl.at_ s2 (-(1 : Int))).bind fun t9 =>
  (if (decide (t9 = u8.1)) = true then
  (Pl.app s2 u8.2).bind fun v_found10 =>
  some (.go (v_found10))
  else
  (Pl.at_ s2 (-(1 : Int))).bind fun t11 =>
  (if (decide (t11 = u8.2)) = true then
  (Pl.app s2 u8.1).bind fun v_found12 =>
  some (.go (v_found12))
  else
  some (.ret none)))) v_way (v_found1)) : Option (((List Int)) ⊕ (Option (List Int)))).bind (Pl.out (fun (s2 : (List Int)) =>
  some (some s2)) (fun r => some r))
theorem q_plates_of {v_mesh : ((List (Unit × Int × Int × Int × Int × Int)) × (List (Unit × Int × Int × Int × Int × Int × Int)))} {v_start : Int} {v_way : (List Int)} (h : List D) {r : (Option (List Int))} (hr : p_plates_of v_mesh v_start v_way = some r) : m_plates_of [(e2 (eL (e6 (eG "plate") eI eI eI eI (e1 eI))) (eL (e7 (eG "portal") eI eI eI eI eI eI))) v_mesh, eI v_start, (eL eI) v_way] h = some ((eO (eL eI)) r, h) := by
  refine Rf.fn (o := p_plates_of v_mesh v_start v_way) (e := (eO (eL eI))) (hp := (fun _ : (Option (List Int)) => h)) (s := [.val ((e2 (eL (e6 (eG "plate") eI eI eI eI (e1 eI))) (eL (e7 (eG "portal") eI eI eI eI eI eI))) v_mesh), .val (eI v_start), .val ((eL eI) v_way), .no, .no, .no, .no, .no]) rfl rfl ?_ hr
  unfold p_plates_of b_plates_of
  refine Rf.set0 (d := (eL (e7 (eG "portal") eI eI eI eI eI eI)) v_mesh.2) (ev_ix (ev_var rfl) ev_c rfl rfl) rfl (sl_s (sl_s (sl_s sl_z))) ?_
  refine Rf.ownT (t := [v_start]) eI (ev_disp (ev_args (ev_var rfl) ev_args0 rfl)) (Nat.le_of_ble_eq_true rfl) (fun _ => (sl_s (sl_s (sl_s (sl_s sl_z))))) fun v_found1 => ?_
  refine Rf.thnX (fun (s2 : (List Int)) z' => ∃ X3 : Option D, ∃ X4 : Option D, ∃ X5 : Option D, z' = ⟨[.val ((e2 (eL (e6 (eG "plate") eI eI eI eI (e1 eI))) (eL (e7 (eG "portal") eI eI eI eI eI eI))) v_mesh), .val (eI v_start), .val ((eL eI) v_way), .val ((eL (e7 (eG "portal") eI eI eI eI eI eI)) v_mesh.2), .own (.lst (List.map eI s2)), (sv X3), (sv X4), (sv X5)], h⟩) (fun (r : (Option (List Int))) f z' => (f = .rt ((eO (eL eI)) r) ∨ (f = .nx ∧ (eO (eL eI)) r = .non)) ∧ z'.h = (fun _ : (Option (List Int)) => h) r) (Rf.forO (xs := v_way) (v := (v_found1)) eI (fun (s2 : (List Int)) z' => ∃ X3 : Option D, ∃ X4 : Option D, ∃ X5 : Option D, z' = ⟨[.val ((e2 (eL (e6 (eG "plate") eI eI eI eI (e1 eI))) (eL (e7 (eG "portal") eI eI eI eI eI eI))) v_mesh), .val (eI v_start), .val ((eL eI) v_way), .val ((eL (e7 (eG "portal") eI eI eI eI eI eI)) v_mesh.2), .own (.lst (List.map eI s2)), (sv X3), (sv X4), (sv X5)], h⟩) (fun (r : (Option (List Int))) f z' => (f = .rt ((eO (eL eI)) r) ∨ (f = .nx ∧ (eO (eL eI)) r = .non)) ∧ z'.h = (fun _ : (Option (List Int)) => h) r) (ev_itsP (e := eI) (xs := v_way) (ev_var rfl) rfl) ⟨none, none, none, rfl⟩ fun x6 s2 z' hz => ?_) ?_ ?_
  · obtain ⟨X3, X4, X5, rfl⟩ := hz
    refine ⟨_, (gr_nm (sl_s (sl_s (sl_s (sl_s (sl_s sl_z)))))), ?_⟩
    refine Rf.bd fun t7 h_t7 => ?_
    refine Rf.bd fun u8 h_u8 => ?_
    refine Rf.asg0 (d := (e2 eI eI) u8) (ev_nm (ev_cutT (ev_as (d := .tup [(eG "portal") t7.1, eI t7.2.1, eI t7.2.2.1, eI t7.2.2.2.1, eI t7.2.2.2.2.1, eI t7.2.2.2.2.2.1, eI t7.2.2.2.2.2.2]) (ev_ixP (e := (e7 (eG "portal") eI eI eI eI eI eI)) (ev_var rfl) (ev_var rfl) rfl h_t7) rfl) (ev_part ev_c) (ev_part ev_c) (show ¬ (HT.sIx 7 0 (some (1 : Int)) = 0 ∧ HT.sIx 7 7 (some (3 : Int)) = 7) from by decide +kernel)) h_u8) rfl (gr_tp (gr_cons (gr_nm (sl_s (sl_s (sl_s (sl_s (sl_s (sl_s sl_z))))))) (gr_cons (gr_nm (sl_s (sl_s (sl_s (sl_s (sl_s (sl_s (sl_s sl_z)))))))) gr_nil))) ?_
    refine Rf.last ?_
    refine Rf.bd fun t9 h_t9 => ?_
    refine Rf.ite (tv (ev_eqI (ev_ixP (e := eI) (ev_varO rfl) (ev_neg ev_c) rfl h_t9) (ev_var rfl))) ?_ ?_
    · refine Rf.app (xs := s2) (t := u8.2) eI rfl (ev_var rfl) rfl (fun _ => (sl_s (sl_s (sl_s (sl_s sl_z))))) fun v_found10 => ?_
      exact Rf.fin ⟨.inl rfl, (some (eI x6)), (some (eI u8.1)), (some (eI u8.2)), rfl⟩
    · refine Rf.bd fun t11 h_t11 => ?_
      refine Rf.ite (tv (ev_eqI (ev_ixP (e := eI) (ev_varO rfl) (ev_neg ev_c) rfl h_t11) (ev_var rfl))) ?_ ?_
      · refine Rf.app (xs := s2) (t := u8.1) eI rfl (ev_var rfl) rfl (fun _ => (sl_s (sl_s (sl_s (sl_s sl_z))))) fun v_found12 => ?_
        exact Rf.fin ⟨.inl rfl, (some (eI x6)), (some (eI u8.1)), (some (eI u8.2)), rfl⟩
      · exact Rf.ret ev_c (by first | rfl | exact pureO (fun _ => rfl) _) ⟨⟨_, rfl⟩, .inl rfl, rfl⟩
  · rintro s2 _ ⟨X3, X4, X5, rfl⟩
    refine Rf.last ?_
    exact Rf.retO (ev_varO rfl) rfl ⟨.inl rfl, rfl⟩
  · intro r r' f z' hk hr; cases hk; exact hr.2
def p_law_pick (v_row : (List Int)) (s : DS) : Option (Int × DS) :=
  (Pl.draw s (v_row.length : Int)).bind fun t1 =>
  (Pl.at_ v_row t1.1).bind fun t2 =>
  some (t2, t1.2)
theorem q_law_pick {v_row : (List Int)} {s : DS} (tl : List D) {r : (Int × DS)} (hr : p_law_pick v_row s = some r) : m_law_pick [.ref 1, (eL eI) v_row] (stT s tl) = some (eI r.1, stT r.2 tl) := by
  refine Rf.fn (o := p_law_pick v_row s) (e := (fun r : (Int × DS) => eI r.1)) (hp := (fun r : (Int × DS) => stT r.2 tl)) (s := [.val (.ref 1), .val ((eL eI) v_row)]) rfl rfl ?_ hr
  unfold p_law_pick b_law_pick
  refine Rf.last ?_
  refine Rf.bd fun t1 h_t1 => ?_
  refine Rf.bd fun t2 h_t2 => ?_
  exact Rf.ret (ev_ixP (e := eI) (ev_var rfl) (ev_call (ev_args (ev_var rfl) (ev_args (ev_blt1 (ev_var rfl) (F_lenM (e := eI) rfl)) ev_args0 rfl) rfl) (q_law_draw tl h_t1)) rfl h_t2) rfl ⟨.inl rfl, rfl⟩
def p_law_walk (v_mesh_here : ((List (Unit × Int × Int × Int × Int × Int)) × (List (Unit × Int × Int × Int × Int × Int × Int)))) (v_plate : Int) (s : DS) : Option (((List Int) × Int) × DS) :=
  (Pl.draw s (5 : Int)).bind fun t1 =>
  (Pl.rngO 0 t1.1).bind fun t2 =>
  (Pl.forN (fun (x7 : Int) (s3 : (List Int) × Int × DS) =>
  (Pl.rngO 0 (v_mesh_here.2.length : Int)).bind fun t8 =>
  (Pl.comp (fun (x9 : Int) => ((Pl.at_ v_mesh_here.2 x9).bind fun t10 => some ([((t10.2.1, t10.2.2.1)).1, ((t10.2.1, t10.2.2.1)).2].any fun j => decide (j = s3.2.1)))) (fun (x9 : Int) => (some x9)) t8).bind fun t11 =>
  ((if (decide ((0 : Int) < (t11.length : Int))) = true then
  (p_law_pick t11 s3.2.2).bind fun t14 =>
  (Pl.app s3.1 t14.1).bind fun v_way15 =>
  (Pl.at_ v_mesh_here.2 t14.1).bind fun t16 =>
  (Pl.at_ v_mesh_here.2 t14.1).bind fun t17 =>
  (Pl.atO [none, some t16.2.1, some t16.2.2.1, some t16.2.2.2.1, some t16.2.2.2.2.1, some t16.2.2.2.2.2.1, some t16.2.2.2.2.2.2] ((1 : Int) + (if (decide (t17.2.1 = s3.2.1)) then (1 : Int) else 0))).bind fun t18 =>
  some (v_way15, t18, t14.2)
  else
  some (s3.1, s3.2.1, s3.2.2)) : Option ((List Int) × Int × DS)).bind fun j12 =>
  some (j12.1, j12.2.1, j12.2.2)) t2 (([] : List Int), v_plate, t1.2)).bind fun (s3 : (List Int) × Int × DS) =>
  some ((s3.1, s3.2.1), s3.2.2)
theorem q_law_walk {v_mesh_here : ((List (Unit × Int × Int × Int × Int × Int)) × (List (Unit × Int × Int × Int × Int × Int × Int)))} {v_plate : Int} {s : DS} (tl : List D) {r : (((List Int) × Int) × DS)} (hr : p_law_walk v_mesh_here v_plate s = some r) : m_law_walk [.ref 1, (e2 (eL (e6 (eG "plate") eI eI eI eI (e1 eI))) (eL (e7 (eG "portal") eI eI eI eI eI eI))) v_mesh_here, eI v_plate] (stT s tl) = some ((h2 (eL eI) eI) r.1, stT r.2 tl) := by
  refine Rf.fn (o := p_law_walk v_mesh_here v_plate s) (e := (fun r : (((List Int) × Int) × DS) => (h2 (eL eI) eI) r.1)) (hp := (fun r : (((List Int) × Int) × DS) => stT r.2 tl)) (s := [.val (.ref 1), .val ((e2 (eL (e6 (eG "plate") eI eI eI eI (e1 eI))) (eL (e7 (eG "portal") eI eI eI eI eI eI))) v_mesh_here), .val (eI v_plate), .no, .no, .no, .no]) rfl rfl ?_ hr
  unfold p_law_walk b_law_walk
  refine Rf.own0 (ds := List.map eI ([] : List Int)) (ev_disp ev_args0) (Nat.le_of_ble_eq_true rfl) (sl_s (sl_s (sl_s sl_z))) ?_
  refine Rf.bd fun t1 h_t1 => ?_
  refine Rf.bd fun t2 h_t2 => ?_
  refine Rf.thn (fun (s3 : (List Int) × Int × DS) z' => ∃ X4 : Option D, ∃ X5 : Option D, ∃ X6 : Option D, z' = ⟨[.val (.ref 1), .val ((e2 (eL (e6 (eG "plate") eI eI eI eI (e1 eI))) (eL (e7 (eG "portal") eI eI eI eI eI eI))) v_mesh_here), .val (eI s3.2.1), .own (.lst (List.map eI s3.1)), (sv X4), (sv X5), (sv X6)], (stT s3.2.2 tl)⟩) (Rf.forN (xs := t2) (v := (([] : List Int), v_plate, t1.2)) eI (fun (s3 : (List Int) × Int × DS) z' => ∃ X4 : Option D, ∃ X5 : Option D, ∃ X6 : Option D, z' = ⟨[.val (.ref 1), .val ((e2 (eL (e6 (eG "plate") eI eI eI eI (e1 eI))) (eL (e7 (eG "portal") eI eI eI eI eI eI))) v_mesh_here), .val (eI s3.2.1), .own (.lst (List.map eI s3.1)), (sv X4), (sv X5), (sv X6)], (stT s3.2.2 tl)⟩) (ev_rngP1 (ev_call (ev_args (ev_var rfl) (ev_args ev_c ev_args0 rfl) rfl) (q_law_draw tl h_t1)) h_t2) ⟨none, none, none, rfl⟩ fun x7 s3 z' hz => ?_) ?_
  · obtain ⟨X4, X5, X6, rfl⟩ := hz
    refine ⟨_, (gr_nm (sl_s (sl_s (sl_s (sl_s sl_z))))), ?_⟩
    refine Rf.bd fun t8 h_t8 => ?_
    refine Rf.bd fun t11 h_t11 => ?_
    refine Rf.set0 (d := (eL eI) t11) (ev_frz (ev_cmp eI eI (s := [.val (.ref 1), .val ((e2 (eL (e6 (eG "plate") eI eI eI eI (e1 eI))) (eL (e7 (eG "portal") eI eI eI eI eI eI))) v_mesh_here), .val (eI s3.2.1), .own (.lst (List.map eI s3.1)), .val (eI x7), (sv X5), (sv X6)]) (s' := [.val (.ref 1), .val ((e2 (eL (e6 (eG "plate") eI eI eI eI (e1 eI))) (eL (e7 (eG "portal") eI eI eI eI eI eI))) v_mesh_here), .val (eI s3.2.1), .own (.lst (List.map eI s3.1)), .val (eI x7), (sv X5), .no]) (s2 := [.val (.ref 1), .val ((e2 (eL (e6 (eG "plate") eI eI eI eI (e1 eI))) (eL (e7 (eG "portal") eI eI eI eI eI eI))) v_mesh_here), .val (eI s3.2.1), .own (.lst (List.map eI s3.1)), .val (eI x7), (sv X5), (sv X6)]) (ev_rngP1 (ev_blt1 (ev_ix (ev_var rfl) ev_c rfl rfl) (F_lenM (e := (e7 (eG "portal") eI eI eI eI eI eI)) rfl)) h_t8) (by cases X6 <;>  rfl) rfl rfl rfl (fun x9 => ⟨_, _, (gr_nm (sl_s (sl_s (sl_s (sl_s (sl_s (sl_s sl_z))))))), fun b hb => by obtain ⟨t10, h_t10, hb⟩ := bI hb; cases hb; exact (tv (ev_inL (xs := [((t10.2.1, t10.2.2.1)).1, ((t10.2.1, t10.2.2.1)).2]) (ev_var rfl) (ev_cutT (ev_as (d := .tup [(eG "portal") t10.1, eI t10.2.1, eI t10.2.2.1, eI t10.2.2.2.1, eI t10.2.2.2.2.1, eI t10.2.2.2.2.2.1, eI t10.2.2.2.2.2.2]) (ev_ixP (e := (e7 (eG "portal") eI eI eI eI eI eI)) (ev_ix (ev_var rfl) ev_c rfl rfl) (ev_var rfl) rfl h_t10) rfl) (ev_part ev_c) (ev_part ev_c) (show ¬ (HT.sIx 7 0 (some (1 : Int)) = 0 ∧ HT.sIx 7 7 (some (3 : Int)) = 7) from by decide +kernel)) rfl)), rfl, fun y hy => by cases hy; exact ⟨_, (ev_var rfl), rfl, rfl⟩⟩) h_t11)) rfl (sl_s (sl_s (sl_s (sl_s (sl_s sl_z))))) ?_
    refine Rf.last ?_
    refine Rf.thn (β := (List Int) × Int × DS) (fun j12 z' => ∃ X13 : Option D, z' = ⟨[.val (.ref 1), .val ((e2 (eL (e6 (eG "plate") eI eI eI eI (e1 eI))) (eL (e7 (eG "portal") eI eI eI eI eI eI))) v_mesh_here), .val (eI j12.2.1), .own (.lst (List.map eI j12.1)), .val (eI x7), .val ((eL eI) t11), (sv X13)], (stT j12.2.2 tl)⟩) ?_ ?_
    · refine Rf.last ?_
      refine Rf.ite (tv (ev_gt (ev_blt1 (ev_var rfl) (F_lenM (e := eI) rfl)) ev_c)) ?_ ?_
      · refine Rf.assoc ?_
        refine Rf.bd fun t14 h_t14 => ?_
        refine Rf.set0 (d := eI t14.1) (ev_call (ev_args (ev_var rfl) (ev_args (ev_var rfl) ev_args0 rfl) rfl) (q_law_pick tl h_t14)) rfl (sl_s (sl_s (sl_s (sl_s (sl_s (sl_s sl_z)))))) ?_
        refine Rf.assoc ?_
        refine Rf.app (xs := s3.1) (t := t14.1) eI rfl (ev_var rfl) rfl (fun _ => (sl_s (sl_s (sl_s sl_z)))) fun v_way15 => ?_
        refine Rf.bd fun t16 h_t16 => ?_
        refine Rf.bd fun t17 h_t17 => ?_
        refine Rf.bd fun t18 h_t18 => ?_
        refine Rf.set0 (d := eI t18) (ev_ixO (ev_ixP (e := (e7 (eG "portal") eI eI eI eI eI eI)) (ev_ix (ev_var rfl) ev_c rfl rfl) (ev_var rfl) rfl h_t16) (ev_add ev_c (ev_intB (ev_eqI (ev_ix (ev_ixP (e := (e7 (eG "portal") eI eI eI eI eI eI)) (ev_ix (ev_var rfl) ev_c rfl rfl) (ev_var rfl) rfl h_t17) ev_c rfl rfl) (ev_var rfl)))) rfl rfl h_t18) rfl (sl_s (sl_s sl_z)) ?_
        exact Rf.fin ⟨rfl, (some (eI t14.1)), rfl⟩
      · refine Rf.skip ?_
        exact Rf.fin ⟨rfl, X6, rfl⟩
    · rintro j12 _ ⟨X13, rfl⟩
      exact Rf.fin ⟨.inl rfl, (some (eI x7)), (some ((eL eI) t11)), X13, rfl⟩
  · rintro s3 _ ⟨X4, X5, X6, rfl⟩
    refine Rf.frz rfl (sl_s (sl_s (sl_s sl_z))) ?_
    refine Rf.last ?_
    exact Rf.ret (ev_frz (ev_disp (ev_args (ev_var rfl) (ev_args (ev_var rfl) ev_args0 rfl) rfl))) rfl ⟨.inl rfl, rfl⟩
def p_law_cost (v_mesh_here : ((List (Unit × Int × Int × Int × Int × Int)) × (List (Unit × Int × Int × Int × Int × Int × Int)))) (v_start : (Int × Int × Int)) (v_goal : (Int × Int × Int)) (v_way : (List Int)) : Option Int :=
  (Pl.mul (2 : Int) v_start.1).bind fun t1 =>
  (Pl.mul (2 : Int) v_start.2.1).bind fun t2 =>
  (some ((t1, t2))).bind fun v_here3 =>
  (Pl.forN (fun (x7 : Int) (s4 : Int × (Int × Int)) =>
  (Pl.at_ v_mesh_here.2 x7).bind fun t8 =>
  (some ((p_law_middle t8))).bind fun v_middle_here9 =>
  (some ((s4.1 + (p_law_apart s4.2 v_middle_here9)))).bind fun v_paid10 =>
  some (v_paid10, v_middle_here9)) v_way ((0 : Int), v_here3)).bind fun (s4 : Int × (Int × Int)) =>
  (Pl.mul (2 : Int) v_goal.1).bind fun t11 =>
  (Pl.mul (2 : Int) v_goal.2.1).bind fun t12 =>
  some (s4.1 + (p_law_apart s4.2 (t11, t12)))
theorem q_law_cost {v_mesh_here : ((List (Unit × Int × Int × Int × Int × Int)) × (List (Unit × Int × Int × Int × Int × Int × Int)))} {v_start : (Int × Int × Int)} {v_goal : (Int × Int × Int)} {v_way : (List Int)} (h : List D) {r : Int} (hr : p_law_cost v_mesh_here v_start v_goal v_way = some r) : m_law_cost [(e2 (eL (e6 (eG "plate") eI eI eI eI (e1 eI))) (eL (e7 (eG "portal") eI eI eI eI eI eI))) v_mesh_here, (e3 eI eI eI) v_start, (e3 eI eI eI) v_goal, (eL eI) v_way] h = some (eI r, h) := by
  refine Rf.fn (o := p_law_cost v_mesh_here v_start v_goal v_way) (e := eI) (hp := (fun _ : Int => h)) (s := [.val ((e2 (eL (e6 (eG "plate") eI eI eI eI (e1 eI))) (eL (e7 (eG "portal") eI eI eI eI eI eI))) v_mesh_here), .val ((e3 eI eI eI) v_start), .val ((e3 eI eI eI) v_goal), .val ((eL eI) v_way), .no, .no, .no, .no]) rfl rfl ?_ hr
  unfold p_law_cost b_law_cost
  refine Rf.bd fun t1 h_t1 => ?_
  refine Rf.bd fun t2 h_t2 => ?_
  refine Rf.setT (t := (t1, t2)) (e2 eI eI) (ev_tup (ev_args (ev_mulP ev_c (ev_ix (ev_var rfl) ev_c rfl rfl) h_t1) (ev_args (ev_mulP ev_c (ev_ix (ev_var rfl) ev_c rfl rfl) h_t2) ev_args0 rfl) rfl)) (fun _ => rfl) (fun _ => (sl_s (sl_s (sl_s (sl_s sl_z))))) fun v_here3 => ?_
  refine Rf.set0 (d := eI (0 : Int)) ev_c rfl (sl_s (sl_s (sl_s (sl_s (sl_s sl_z))))) ?_
  refine Rf.thn (fun (s4 : Int × (Int × Int)) z' => ∃ X5 : Option D, ∃ X6 : Option D, z' = ⟨[.val ((e2 (eL (e6 (eG "plate") eI eI eI eI (e1 eI))) (eL (e7 (eG "portal") eI eI eI eI eI eI))) v_mesh_here), .val ((e3 eI eI eI) v_start), .val ((e3 eI eI eI) v_goal), .val ((eL eI) v_way), .val ((e2 eI eI) s4.2), .val (eI s4.1), (sv X5), (sv X6)], h⟩) (Rf.forN (xs := v_way) (v := ((0 : Int), v_here3)) eI (fun (s4 : Int × (Int × Int)) z' => ∃ X5 : Option D, ∃ X6 : Option D, z' = ⟨[.val ((e2 (eL (e6 (eG "plate") eI eI eI eI (e1 eI))) (eL (e7 (eG "portal") eI eI eI eI eI eI))) v_mesh_here), .val ((e3 eI eI eI) v_start), .val ((e3 eI eI eI) v_goal), .val ((eL eI) v_way), .val ((e2 eI eI) s4.2), .val (eI s4.1), (sv X5), (sv X6)], h⟩) (ev_itsP (e := eI) (xs := v_way) (ev_var rfl) rfl) ⟨none, none, rfl⟩ fun x7 s4 z' hz => ?_) ?_
  · obtain ⟨X5, X6, rfl⟩ := hz
    refine ⟨_, (gr_nm (sl_s (sl_s (sl_s (sl_s (sl_s (sl_s sl_z))))))), ?_⟩
    refine Rf.bd fun t8 h_t8 => ?_
    refine Rf.setT (t := (p_law_middle t8)) (e2 eI eI) (ev_call (ev_args (ev_ixP (e := (e7 (eG "portal") eI eI eI eI eI eI)) (ev_ix (ev_var rfl) ev_c rfl rfl) (ev_var rfl) rfl h_t8) ev_args0 rfl) (q_law_middle t8 _)) (fun _ => rfl) (fun _ => (sl_s (sl_s (sl_s (sl_s (sl_s (sl_s (sl_s sl_z)))))))) fun v_middle_here9 => ?_
    refine Rf.setT (t := (s4.1 + (p_law_apart s4.2 v_middle_here9))) eI (ev_add (ev_var rfl) (ev_call (ev_args (ev_var rfl) (ev_args (ev_var rfl) ev_args0 rfl) rfl) (q_law_apart s4.2 v_middle_here9 _))) (fun _ => rfl) (fun _ => (sl_s (sl_s (sl_s (sl_s (sl_s sl_z)))))) fun v_paid10 => ?_
    refine Rf.last ?_
    refine Rf.set0 (d := (e2 eI eI) v_middle_here9) (ev_var rfl) rfl (sl_s (sl_s (sl_s (sl_s sl_z)))) ?_
    exact Rf.fin ⟨.inl rfl, (some (eI x7)), (some ((e2 eI eI) v_middle_here9)), rfl⟩
  · rintro s4 _ ⟨X5, X6, rfl⟩
    refine Rf.last ?_
    refine Rf.bd fun t11 h_t11 => ?_
    refine Rf.bd fun t12 h_t12 => ?_
    exact Rf.ret (ev_add (ev_var rfl) (ev_call (ev_args (ev_var rfl) (ev_args (ev_tup (ev_args (ev_mulP ev_c (ev_ix (ev_var rfl) ev_c rfl rfl) h_t11) (ev_args (ev_mulP ev_c (ev_ix (ev_var rfl) ev_c rfl rfl) h_t12) ev_args0 rfl) rfl)) ev_args0 rfl) rfl) (q_law_apart s4.2 (t11, t12) _))) rfl ⟨.inl rfl, rfl⟩
def p_cost (v_mesh : ((List (Unit × Int × Int × Int × Int × Int)) × (List (Unit × Int × Int × Int × Int × Int × Int)))) (v_start : (Int × Int × Int)) (v_goal : (Int × Int × Int)) (v_way : (List Int)) : Option Int :=
  (Pl.mul (2 : Int) v_start.1).bind fun t1 =>
  (Pl.mul (2 : Int) v_start.2.1).bind fun t2 =>
  (some ([(t1, t2)])).bind fun v_points3 =>
  (Pl.comp (fun (x4 : Int) => (some true)) (fun (x4 : Int) => ((Pl.at_ v_mesh.2 x4).bind fun t5 => some (p_doubled_middle t5))) v_way).bind fun t6 =>
  (Pl.cat v_points3 t6).bind fun t7 =>
  (Pl.mul (2 : Int) v_goal.1).bind fun t8 =>
  (Pl.mul (2 : Int) v_goal.2.1).bind fun t9 =>
  (Pl.app t7 (t8, t9)).bind fun v_points10 =>
  (Pl.rngO 0 ((v_points10.length : Int) - (1 : Int))).bind fun t11 =>
  (Pl.comp (fun (x12 : Int) => (some true)) (fun (x12 : Int) => ((Pl.at_ v_points10 x12).bind fun t13 => (Pl.at_ v_points10 (x12 + (1 : Int))).bind fun t14 => some (p_apart t13 t14))) t11).bind fun t15 =>
  some t15.sum
theorem q_cost {v_mesh : ((List (Unit × Int × Int × Int × Int × Int)) × (List (Unit × Int × Int × Int × Int × Int × Int)))} {v_start : (Int × Int × Int)} {v_goal : (Int × Int × Int)} {v_way : (List Int)} (h : List D) {r : Int} (hr : p_cost v_mesh v_start v_goal v_way = some r) : m_cost [(e2 (eL (e6 (eG "plate") eI eI eI eI (e1 eI))) (eL (e7 (eG "portal") eI eI eI eI eI eI))) v_mesh, (e3 eI eI eI) v_start, (e3 eI eI eI) v_goal, (eL eI) v_way] h = some (eI r, h) := by
  refine Rf.fn (o := p_cost v_mesh v_start v_goal v_way) (e := eI) (hp := (fun _ : Int => h)) (s := [.val ((e2 (eL (e6 (eG "plate") eI eI eI eI (e1 eI))) (eL (e7 (eG "portal") eI eI eI eI eI eI))) v_mesh), .val ((e3 eI eI eI) v_start), .val ((e3 eI eI eI) v_goal), .val ((eL eI) v_way), .no, .no]) rfl rfl ?_ hr
  unfold p_cost b_cost
  refine Rf.bd fun t1 h_t1 => ?_
  refine Rf.bd fun t2 h_t2 => ?_
  refine Rf.ownT (t := [(t1, t2)]) (e2 eI eI) (ev_disp (ev_args (ev_tup (ev_args (ev_mulP ev_c (ev_ix (ev_var rfl) ev_c rfl rfl) h_t1) (ev_args (ev_mulP ev_c (ev_ix (ev_var rfl) ev_c rfl rfl) h_t2) ev_args0 rfl) rfl)) ev_args0 rfl)) (Nat.le_of_ble_eq_true rfl) (fun _ => (sl_s (sl_s (sl_s (sl_s sl_z))))) fun v_points3 => ?_
  refine Rf.bd fun t6 h_t6 => ?_
  refine Rf.bd fun t7 h_t7 => ?_
  refine Rf.own0 (ds := List.map (e2 eI eI) t7) (ev_catP (e := (e2 eI eI)) (ev_varO rfl) (ev_frz (ev_cmp eI (e2 eI eI) (s := [.val ((e2 (eL (e6 (eG "plate") eI eI eI eI (e1 eI))) (eL (e7 (eG "portal") eI eI eI eI eI eI))) v_mesh), .val ((e3 eI eI eI) v_start), .val ((e3 eI eI eI) v_goal), .val ((eL eI) v_way), .own (.lst (List.map (e2 eI eI) v_points3)), .no]) (s' := [.val ((e2 (eL (e6 (eG "plate") eI eI eI eI (e1 eI))) (eL (e7 (eG "portal") eI eI eI eI eI eI))) v_mesh), .val ((e3 eI eI eI) v_start), .val ((e3 eI eI eI) v_goal), .val ((eL eI) v_way), .own (.lst (List.map (e2 eI eI) v_points3)), .no]) (s2 := [.val ((e2 (eL (e6 (eG "plate") eI eI eI eI (e1 eI))) (eL (e7 (eG "portal") eI eI eI eI eI eI))) v_mesh), .val ((e3 eI eI eI) v_start), .val ((e3 eI eI eI) v_goal), .val ((eL eI) v_way), .own (.lst (List.map (e2 eI eI) v_points3)), .no]) (ev_itsC (e := eI) (xs := v_way) (ev_var rfl) rfl) rfl rfl rfl rfl (fun x4 => ⟨_, _, (gr_nm (sl_s (sl_s (sl_s (sl_s (sl_s sl_z)))))), fun b hb => by cases hb; exact ev_true, rfl, fun y hy => by obtain ⟨t5, h_t5, hy⟩ := bI hy; cases hy; exact ⟨_, (ev_call (ev_args (ev_ixP (e := (e7 (eG "portal") eI eI eI eI eI eI)) (ev_ix (ev_var rfl) ev_c rfl rfl) (ev_var rfl) rfl h_t5) ev_args0 rfl) (q_doubled_middle t5 _)), rfl, rfl⟩⟩) h_t6)) rfl rfl rfl rfl h_t7) (Nat.le_of_ble_eq_true rfl) (sl_s (sl_s (sl_s (sl_s sl_z)))) ?_
  refine Rf.bd fun t8 h_t8 => ?_
  refine Rf.bd fun t9 h_t9 => ?_
  refine Rf.app (xs := t7) (t := (t8, t9)) (e2 eI eI) rfl (ev_tup (ev_args (ev_mulP ev_c (ev_ix (ev_var rfl) ev_c rfl rfl) h_t8) (ev_args (ev_mulP ev_c (ev_ix (ev_var rfl) ev_c rfl rfl) h_t9) ev_args0 rfl) rfl)) rfl (fun _ => (sl_s (sl_s (sl_s (sl_s sl_z))))) fun v_points10 => ?_
  refine Rf.frz rfl (sl_s (sl_s (sl_s (sl_s sl_z)))) ?_
  refine Rf.last ?_
  refine Rf.bd fun t11 h_t11 => ?_
  refine Rf.bd fun t15 h_t15 => ?_
  exact Rf.ret (ev_blt1 (ev_frz (ev_cmp eI eI (s := [.val ((e2 (eL (e6 (eG "plate") eI eI eI eI (e1 eI))) (eL (e7 (eG "portal") eI eI eI eI eI eI))) v_mesh), .val ((e3 eI eI eI) v_start), .val ((e3 eI eI eI) v_goal), .val ((eL eI) v_way), .val ((eL (e2 eI eI)) v_points10), .no]) (s' := [.val ((e2 (eL (e6 (eG "plate") eI eI eI eI (e1 eI))) (eL (e7 (eG "portal") eI eI eI eI eI eI))) v_mesh), .val ((e3 eI eI eI) v_start), .val ((e3 eI eI eI) v_goal), .val ((eL eI) v_way), .val ((eL (e2 eI eI)) v_points10), .no]) (s2 := [.val ((e2 (eL (e6 (eG "plate") eI eI eI eI (e1 eI))) (eL (e7 (eG "portal") eI eI eI eI eI eI))) v_mesh), .val ((e3 eI eI eI) v_start), .val ((e3 eI eI eI) v_goal), .val ((eL eI) v_way), .val ((eL (e2 eI eI)) v_points10), .no]) (ev_rngP1 (ev_sub (ev_blt1 (ev_var rfl) (F_lenM (e := (e2 eI eI)) rfl)) ev_c) h_t11) rfl rfl rfl rfl (fun x12 => ⟨_, _, (gr_nm (sl_s (sl_s (sl_s (sl_s (sl_s sl_z)))))), fun b hb => by cases hb; exact ev_true, rfl, fun y hy => by obtain ⟨t13, h_t13, hy⟩ := bI hy; obtain ⟨t14, h_t14, hy⟩ := bI hy; cases hy; exact ⟨_, (ev_call (ev_args (ev_ixP (e := (e2 eI eI)) (ev_var rfl) (ev_var rfl) rfl h_t13) (ev_args (ev_ixP (e := (e2 eI eI)) (ev_var rfl) (ev_add (ev_var rfl) ev_c) rfl h_t14) ev_args0 rfl) rfl) (q_apart t13 t14 _)), rfl, rfl⟩⟩) h_t15)) (F_sum rfl)) rfl ⟨.inl rfl, rfl⟩
noncomputable def p_law (s : DS) : Option (Bool × DS) :=
  (p_law_mesh  s).bind fun t1 =>
  (Pl.reprD ((e2 (eL (e6 (eG "plate") eI eI eI eI (e1 eI))) (eL (e7 (eG "portal") eI eI eI eI eI eI))) t1.1)).bind fun t2 =>
  (some ((t1.1.1.length : Int))).bind fun v_many3 =>
  (Pl.rngO 0 (3 : Int)).bind fun t4 =>
  ((Pl.forO (fun (x15 : Int) (s5 : DS) =>
  (Pl.draw s5 (70 : Int)).bind fun t16 =>
  (Pl.draw t16.2 (70 : Int)).bind fun t17 =>
  (Pl.draw t17.2 v_many3).bind fun t18 =>
  (some ((t16.1, t17.1, t18.1))).bind fun v_start19 =>
  (Pl.draw t18.2 (70 : Int)).bind fun t20 =>
  (Pl.draw t20.2 (70 : Int)).bind fun t21 =>
  (Pl.draw t21.2 v_many3).bind fun t22 =>
  (p_law_pick [v_start19.2.2, t22.1] t22.2).bind fun t23 =>
  (some ((t20.1, t21.1, t23.1))).bind fun v_goal24 =>
  (p_law_least t1.1 v_start19 v_goal24).bind fun t25 =>
  (p_cheapest t1.1 v_start19 v_goal24).bind fun t26 =>
  (if t25.isNone = true then
  (if t26.isSome = true then
  some (.ret (false, t23.2))
  else
  some (.go (t23.2)))
  else
  (t26).bind fun t27 =>
  (Pl.orO (!true) ((t26).bind fun t28 => (Pl.orO (!decide ((some t28.1) = t25)) ((t26).bind fun t29 => (p_law_cost t1.1 v_start19 v_goal24 t29.2).bind fun t30 => some (!decide ((some t30) = t25)))).bind fun t31 => some t31)).bind fun t32 =>
  (if t32 = true then
  some (.ret (false, t23.2))
  else
  (t26).bind fun t33 =>
  (Pl.rngO 0 ((t33.2.length : Int) - (1 : Int))).bind fun t34 =>
  (Pl.comp (fun (x35 : Int) => ((t26).bind fun t36 => (Pl.at_ t36.2 x35).bind fun t37 => (t26).bind fun t38 => (Pl.at_ t38.2 (x35 + (1 : Int))).bind fun t39 => some (decide (t37 = t39)))) (fun (x35 : Int) => (some x35)) t34).bind fun t40 =>
  (if (decide ((0 : Int) < (t40.length : Int))) = true then
  some (.ret (false, t23.2))
  else
  (t26).bind fun t41 =>
  (p_plates_of t1.1 v_start19.2.2 t41.2).bind fun t42 =>
  (Pl.orO t42.isNone ((t42).bind fun t43 => (t42).bind fun t44 => (Pl.at_ t43 ((t44.length : Int) - (1 : Int))).bind fun t45 => (Pl.orO (!decide (t45 = v_goal24.2.2)) ((t26).bind fun t46 => (p_cost t1.1 v_start19 v_goal24 t46.2).bind fun t47 => some (!decide ((some t47) = t25)))).bind fun t48 => some t48)).bind fun t49 =>
  (if t49 = true then
  some (.ret (false, t23.2))
  else
  (p_law_walk t1.1 v_start19.2.2 t23.2).bind fun t50 =>
  (Pl.draw t50.2 (70 : Int)).bind fun t51 =>
  (Pl.draw t51.2 (70 : Int)).bind fun t52 =>
  (some ((t51.1, t52.1, t50.1.2))).bind fun v_there53 =>
  (p_cost t1.1 v_start19 v_there53 t50.1.1).bind fun t54 =>
  (p_law_cost t1.1 v_start19 v_there53 t50.1.1).bind fun t55 =>
  (Pl.orO (!decide (t54 = t55)) ((Pl.reprD ((e2 (eL (e6 (eG "plate") eI eI eI eI (e1 eI))) (eL (e7 (eG "portal") eI eI eI eI eI eI))) t1.1)).bind fun t56 => some (!decide (t56 = t2)))).bind fun t57 =>
  (if t57 = true then
  some (.ret (false, t52.2))
  else
  some (.go (t52.2)))))))) t4 (t1.2)) : Option ((DS) ⊕ (Bool × DS))).bind (Pl.out (fun (s5 : DS) =>
  some (true, s5)) (fun r => some r))
theorem q_law {v_script : D} {s : DS} {r : Bool × DS} {h0 tl : List D} (hs : m_law_state [v_script] h0 = some (.ref 1, stT s tl)) (hr : p_law s = some r) (hp : isPure v_script = true) : m_law [v_script] h0 = some (.bl r.1, stT r.2 tl) := by
  refine Rf.fn (o := p_law s) (e := fun r : Bool × DS => .bl r.1) (hp := fun r : Bool × DS => stT r.2 tl) (s := [.val v_script, .no, .no, .no, .no, .no, .no, .no, .no, .no, .no, .no, .no, .no, .no]) rfl rfl ?_ hr
  unfold b_law
  refine Rf.set0 (d := .ref 1) (s := [.val v_script, .no, .no, .no, .no, .no, .no, .no, .no, .no, .no, .no, .no, .no, .no]) (h := stT s tl) (ev_call (ev_args (ev_var rfl) ev_args0 hp) hs) rfl (sl_s sl_z) ?_
  clear hs hr
  unfold p_law
  refine Rf.bd fun t1 h_t1 => ?_
  refine Rf.set0 (d := (e2 (eL (e6 (eG "plate") eI eI eI eI (e1 eI))) (eL (e7 (eG "portal") eI eI eI eI eI eI))) t1.1) (ev_call (ev_args (ev_var rfl) ev_args0 rfl) (q_law_mesh tl h_t1)) rfl (sl_s (sl_s sl_z)) ?_
  refine Rf.bd fun t2 h_t2 => ?_
  refine Rf.set0 (d := eS t2) (ev_reprO (ev_var rfl) rfl h_t2) rfl (sl_s (sl_s (sl_s sl_z))) ?_
  refine Rf.setT (t := (t1.1.1.length : Int)) eI (ev_blt1 (ev_ix (ev_var rfl) ev_c rfl rfl) (F_lenM (e := (e6 (eG "plate") eI eI eI eI (e1 eI))) rfl)) (fun _ => rfl) (fun _ => (sl_s (sl_s (sl_s (sl_s sl_z))))) fun v_many3 => ?_
  refine Rf.bd fun t4 h_t4 => ?_
  refine Rf.thnX (fun (s5 : DS) z' => ∃ X6 : Option D, ∃ X7 : Option D, ∃ X8 : Option D, ∃ X9 : Option D, ∃ X10 : Option D, ∃ X11 : Option D, ∃ X12 : Option D, ∃ X13 : Option D, ∃ X14 : Option D, z' = ⟨[.val (eD v_script), .val (.ref 1), .val ((e2 (eL (e6 (eG "plate") eI eI eI eI (e1 eI))) (eL (e7 (eG "portal") eI eI eI eI eI eI))) t1.1), .val (eS t2), .val (eI v_many3), (sv X6), (sv X7), (sv X8), (sv X9), (sv X10), .no, (sv X11), (sv X13), (sv X14), (sv X12)], (stT s5 tl)⟩) (fun (r : (Bool × DS)) f z' => (f = .rt ((fun r : (Bool × DS) => eB r.1) r) ∨ (f = .nx ∧ (fun r : (Bool × DS) => eB r.1) r = .non)) ∧ z'.h = (fun r : (Bool × DS) => stT r.2 tl) r) (Rf.forO (xs := t4) (v := (t1.2)) eI (fun (s5 : DS) z' => ∃ X6 : Option D, ∃ X7 : Option D, ∃ X8 : Option D, ∃ X9 : Option D, ∃ X10 : Option D, ∃ X11 : Option D, ∃ X12 : Option D, ∃ X13 : Option D, ∃ X14 : Option D, z' = ⟨[.val (eD v_script), .val (.ref 1), .val ((e2 (eL (e6 (eG "plate") eI eI eI eI (e1 eI))) (eL (e7 (eG "portal") eI eI eI eI eI eI))) t1.1), .val (eS t2), .val (eI v_many3), (sv X6), (sv X7), (sv X8), (sv X9), (sv X10), .no, (sv X11), (sv X13), (sv X14), (sv X12)], (stT s5 tl)⟩) (fun (r : (Bool × DS)) f z' => (f = .rt ((fun r : (Bool × DS) => eB r.1) r) ∨ (f = .nx ∧ (fun r : (Bool × DS) => eB r.1) r = .non)) ∧ z'.h = (fun r : (Bool × DS) => stT r.2 tl) r) (ev_rngP1 ev_c h_t4) ⟨none, none, none, none, none, none, none, none, none, rfl⟩ fun x15 s5 z' hz => ?_) ?_ ?_
  · obtain ⟨X6, X7, X8, X9, X10, X11, X12, X13, X14, rfl⟩ := hz
    refine ⟨_, (gr_nm (sl_s (sl_s (sl_s (sl_s (sl_s sl_z)))))), ?_⟩
    refine Rf.bd fun t16 h_t16 => ?_
    refine Rf.bd fun t17 h_t17 => ?_
    refine Rf.bd fun t18 h_t18 => ?_
    refine Rf.setT (t := (t16.1, t17.1, t18.1)) (e3 eI eI eI) (ev_tup (ev_args (ev_call (ev_args (ev_var rfl) (ev_args ev_c ev_args0 rfl) rfl) (q_law_draw tl h_t16)) (ev_args (ev_call (ev_args (ev_var rfl) (ev_args ev_c ev_args0 rfl) rfl) (q_law_draw tl h_t17)) (ev_args (ev_call (ev_args (ev_var rfl) (ev_args (ev_var rfl) ev_args0 rfl) rfl) (q_law_draw tl h_t18)) ev_args0 rfl) rfl) rfl)) (fun _ => rfl) (fun _ => (sl_s (sl_s (sl_s (sl_s (sl_s (sl_s sl_z))))))) fun v_start19 => ?_
    refine Rf.bd fun t20 h_t20 => ?_
    refine Rf.bd fun t21 h_t21 => ?_
    refine Rf.bd fun t22 h_t22 => ?_
    refine Rf.bd fun t23 h_t23 => ?_
    refine Rf.setT (t := (t20.1, t21.1, t23.1)) (e3 eI eI eI) (ev_tup (ev_args (ev_call (ev_args (ev_var rfl) (ev_args ev_c ev_args0 rfl) rfl) (q_law_draw tl h_t20)) (ev_args (ev_call (ev_args (ev_var rfl) (ev_args ev_c ev_args0 rfl) rfl) (q_law_draw tl h_t21)) (ev_args (ev_call (ev_args (ev_var rfl) (ev_args (ev_frz (ev_disp (ev_args (ev_ix (ev_var rfl) ev_c rfl rfl) (ev_args (ev_call (ev_args (ev_var rfl) (ev_args (ev_var rfl) ev_args0 rfl) rfl) (q_law_draw tl h_t22)) ev_args0 rfl) rfl))) ev_args0 rfl) rfl) (q_law_pick tl h_t23)) ev_args0 rfl) rfl) rfl)) (fun _ => rfl) (fun _ => (sl_s (sl_s (sl_s (sl_s (sl_s (sl_s (sl_s sl_z)))))))) fun v_goal24 => ?_
    refine Rf.bd fun t25 h_t25 => ?_
    refine Rf.set0 (d := (eO eI) t25) (ev_call (ev_args (ev_var rfl) (ev_args (ev_var rfl) (ev_args (ev_var rfl) ev_args0 rfl) rfl) rfl) (q_law_least _ h_t25)) (by first | rfl | exact pureO (fun _ => rfl) _) (sl_s (sl_s (sl_s (sl_s (sl_s (sl_s (sl_s (sl_s sl_z)))))))) ?_
    refine Rf.bd fun t26 h_t26 => ?_
    refine Rf.set0 (d := (eO (e2 eI (eL eI))) t26) (ev_call (ev_args (ev_var rfl) (ev_args (ev_var rfl) (ev_args (ev_var rfl) ev_args0 rfl) rfl) rfl) (q_cheapest _ h_t26)) (by first | rfl | exact pureO (fun _ => rfl) _) (sl_s (sl_s (sl_s (sl_s (sl_s (sl_s (sl_s (sl_s (sl_s sl_z))))))))) ?_
    refine Rf.ite (tv (ev_isN (ev_var rfl) (nonE (fun _ => rfl) _))) ?_ ?_
    · refine Rf.assoc ?_
      refine Rf.ite (tv (ev_notN (ev_var rfl) (notNonE (fun _ => rfl) _))) ?_ ?_
      · exact Rf.ret ev_c rfl ⟨⟨_, rfl⟩, .inl rfl, rfl⟩
      · refine Rf.skip ?_
        exact Rf.cnt ⟨.inr rfl, (some (eI x15)), (some ((e3 eI eI eI) v_start19)), (some ((e3 eI eI eI) v_goal24)), (some ((eO eI) t25)), (some ((eO (e2 eI (eL eI))) t26)), X11, X12, X13, X14, rfl⟩
    · refine Rf.skip ?_
      refine Rf.bd fun t27 h_t27 => ?_
      refine Rf.bd fun t32 h_t32 => ?_
      refine Rf.ite (tt_orO (tt_not (tt_tru (ev_un (ev_unO (ev_var rfl) h_t27) (lf_isi (t := "tuple") rfl (by with_unfolding_all decide))) rfl)) (fun q hq => by obtain ⟨t28, h_t28, hq⟩ := bI hq; obtain ⟨t31, h_t31, hq⟩ := bI hq; cases hq; exact (tt_orO (tv (ev_ne (ev_ix (ev_unO (ev_var rfl) h_t28) ev_c rfl rfl) (ev_var rfl) (EqN.eqP (e := (eO eI)) (EqN.O EqN.I (fun _ => rfl)) (by decide) (some t28.1) t25 _ (by first | rfl | exact isValO (fun _ => rfl) _) (by first | rfl | exact isValO (fun _ => rfl) _)))) (fun q hq => by obtain ⟨t29, h_t29, hq⟩ := bI hq; obtain ⟨t30, h_t30, hq⟩ := bI hq; cases hq; exact (tv (ev_ne (ev_call (ev_args (ev_var rfl) (ev_args (ev_var rfl) (ev_args (ev_var rfl) (ev_args (ev_ix (ev_unO (ev_var rfl) h_t29) ev_c rfl rfl) ev_args0 rfl) rfl) rfl) rfl) (q_law_cost _ h_t30)) (ev_var rfl) (EqN.eqP (e := (eO eI)) (EqN.O EqN.I (fun _ => rfl)) (by decide) (some t30) t25 _ (by first | rfl | exact isValO (fun _ => rfl) _) (by first | rfl | exact isValO (fun _ => rfl) _))))) h_t31)) h_t32) ?_ ?_
      · exact Rf.ret ev_c rfl ⟨⟨_, rfl⟩, .inl rfl, rfl⟩
      · refine Rf.skip ?_
        refine Rf.bd fun t33 h_t33 => ?_
        refine Rf.bd fun t34 h_t34 => ?_
        refine Rf.bd fun t40 h_t40 => ?_
        refine Rf.ite (tv (ev_gt (ev_blt1 (ev_frz (ev_cmp eI eI (s := [.val (eD v_script), .val (.ref 1), .val ((e2 (eL (e6 (eG "plate") eI eI eI eI (e1 eI))) (eL (e7 (eG "portal") eI eI eI eI eI eI))) t1.1), .val (eS t2), .val (eI v_many3), .val (eI x15), .val ((e3 eI eI eI) v_start19), .val ((e3 eI eI eI) v_goal24), .val ((eO eI) t25), .val ((eO (e2 eI (eL eI))) t26), .no, (sv X11), (sv X13), (sv X14), (sv X12)]) (s' := [.val (eD v_script), .val (.ref 1), .val ((e2 (eL (e6 (eG "plate") eI eI eI eI (e1 eI))) (eL (e7 (eG "portal") eI eI eI eI eI eI))) t1.1), .val (eS t2), .val (eI v_many3), .val (eI x15), .val ((e3 eI eI eI) v_start19), .val ((e3 eI eI eI) v_goal24), .val ((eO eI) t25), .val ((eO (e2 eI (eL eI))) t26), .no, (sv X11), (sv X13), (sv X14), (sv X12)]) (s2 := [.val (eD v_script), .val (.ref 1), .val ((e2 (eL (e6 (eG "plate") eI eI eI eI (e1 eI))) (eL (e7 (eG "portal") eI eI eI eI eI eI))) t1.1), .val (eS t2), .val (eI v_many3), .val (eI x15), .val ((e3 eI eI eI) v_start19), .val ((e3 eI eI eI) v_goal24), .val ((eO eI) t25), .val ((eO (e2 eI (eL eI))) t26), .no, (sv X11), (sv X13), (sv X14), (sv X12)]) (ev_rngP1 (ev_sub (ev_blt1 (ev_ix (ev_unO (ev_var rfl) h_t33) ev_c rfl rfl) (F_lenM (e := eI) rfl)) ev_c) h_t34) rfl rfl rfl rfl (fun x35 => ⟨_, _, (gr_nm (sl_s (sl_s (sl_s (sl_s (sl_s (sl_s (sl_s (sl_s (sl_s (sl_s sl_z))))))))))), fun b hb => by obtain ⟨t36, h_t36, hb⟩ := bI hb; obtain ⟨t37, h_t37, hb⟩ := bI hb; obtain ⟨t38, h_t38, hb⟩ := bI hb; obtain ⟨t39, h_t39, hb⟩ := bI hb; cases hb; exact (tv (ev_eqI (ev_ixP (e := eI) (ev_ix (ev_unO (ev_var rfl) h_t36) ev_c rfl rfl) (ev_var rfl) rfl h_t37) (ev_ixP (e := eI) (ev_ix (ev_unO (ev_var rfl) h_t38) ev_c rfl rfl) (ev_add (ev_var rfl) ev_c) rfl h_t39))), rfl, fun y hy => by cases hy; exact ⟨_, (ev_var rfl), rfl, rfl⟩⟩) h_t40)) (F_lenM (e := eI) rfl)) ev_c)) ?_ ?_
        · exact Rf.ret ev_c rfl ⟨⟨_, rfl⟩, .inl rfl, rfl⟩
        · refine Rf.skip ?_
          refine Rf.bd fun t41 h_t41 => ?_
          refine Rf.bd fun t42 h_t42 => ?_
          refine Rf.set0 (d := (eO (eL eI)) t42) (ev_call (ev_args (ev_var rfl) (ev_args (ev_ix (ev_var rfl) ev_c rfl rfl) (ev_args (ev_ix (ev_unO (ev_var rfl) h_t41) ev_c rfl rfl) ev_args0 rfl) rfl) rfl) (q_plates_of _ h_t42)) (by first | rfl | exact pureO (fun _ => rfl) _) (sl_s (sl_s (sl_s (sl_s (sl_s (sl_s (sl_s (sl_s (sl_s (sl_s (sl_s sl_z))))))))))) ?_
          refine Rf.bd fun t49 h_t49 => ?_
          refine Rf.ite (tt_orO (tv (ev_isN (ev_var rfl) (nonE (fun _ => rfl) _))) (fun q hq => by obtain ⟨t43, h_t43, hq⟩ := bI hq; obtain ⟨t44, h_t44, hq⟩ := bI hq; obtain ⟨t45, h_t45, hq⟩ := bI hq; obtain ⟨t48, h_t48, hq⟩ := bI hq; cases hq; exact (tt_orO (tv (ev_neI (ev_ixP (e := eI) (ev_unO (ev_var rfl) h_t43) (ev_sub (ev_blt1 (ev_unO (ev_var rfl) h_t44) (F_lenM (e := eI) rfl)) ev_c) rfl h_t45) (ev_ix (ev_var rfl) ev_c rfl rfl))) (fun q hq => by obtain ⟨t46, h_t46, hq⟩ := bI hq; obtain ⟨t47, h_t47, hq⟩ := bI hq; cases hq; exact (tv (ev_ne (ev_call (ev_args (ev_var rfl) (ev_args (ev_var rfl) (ev_args (ev_var rfl) (ev_args (ev_ix (ev_unO (ev_var rfl) h_t46) ev_c rfl rfl) ev_args0 rfl) rfl) rfl) rfl) (q_cost _ h_t47)) (ev_var rfl) (EqN.eqP (e := (eO eI)) (EqN.O EqN.I (fun _ => rfl)) (by decide) (some t47) t25 _ (by first | rfl | exact isValO (fun _ => rfl) _) (by first | rfl | exact isValO (fun _ => rfl) _))))) h_t48)) h_t49) ?_ ?_
          · exact Rf.ret ev_c rfl ⟨⟨_, rfl⟩, .inl rfl, rfl⟩
          · refine Rf.skip ?_
            refine Rf.bd fun t50 h_t50 => ?_
            refine Rf.asg0 (d := (h2 (eL eI) eI) t50.1) (ev_call (ev_args (ev_var rfl) (ev_args (ev_var rfl) (ev_args (ev_ix (ev_var rfl) ev_c rfl rfl) ev_args0 rfl) rfl) rfl) (q_law_walk tl h_t50)) rfl (gr_tl (gr_cons (gr_nm (sl_s (sl_s (sl_s (sl_s (sl_s (sl_s (sl_s (sl_s (sl_s (sl_s (sl_s (sl_s sl_z))))))))))))) (gr_cons (gr_nm (sl_s (sl_s (sl_s (sl_s (sl_s (sl_s (sl_s (sl_s (sl_s (sl_s (sl_s (sl_s (sl_s sl_z)))))))))))))) gr_nil))) ?_
            refine Rf.bd fun t51 h_t51 => ?_
            refine Rf.bd fun t52 h_t52 => ?_
            refine Rf.setT (t := (t51.1, t52.1, t50.1.2)) (e3 eI eI eI) (ev_tup (ev_args (ev_call (ev_args (ev_var rfl) (ev_args ev_c ev_args0 rfl) rfl) (q_law_draw tl h_t51)) (ev_args (ev_call (ev_args (ev_var rfl) (ev_args ev_c ev_args0 rfl) rfl) (q_law_draw tl h_t52)) (ev_args (ev_var rfl) ev_args0 rfl) rfl) rfl)) (fun _ => rfl) (fun _ => (sl_s (sl_s (sl_s (sl_s (sl_s (sl_s (sl_s (sl_s (sl_s (sl_s (sl_s (sl_s (sl_s (sl_s sl_z))))))))))))))) fun v_there53 => ?_
            refine Rf.last ?_
            refine Rf.bd fun t54 h_t54 => ?_
            refine Rf.bd fun t55 h_t55 => ?_
            refine Rf.bd fun t57 h_t57 => ?_
            refine Rf.ite (tt_orO (tv (ev_neI (ev_call (ev_args (ev_var rfl) (ev_args (ev_var rfl) (ev_args (ev_var rfl) (ev_args (ev_var rfl) ev_args0 rfl) rfl) rfl) rfl) (q_cost _ h_t54)) (ev_call (ev_args (ev_var rfl) (ev_args (ev_var rfl) (ev_args (ev_var rfl) (ev_args (ev_var rfl) ev_args0 rfl) rfl) rfl) rfl) (q_law_cost _ h_t55)))) (fun q hq => by obtain ⟨t56, h_t56, hq⟩ := bI hq; cases hq; exact (tv (ev_ne (ev_reprO (ev_var rfl) rfl h_t56) (ev_var rfl) rfl))) h_t57) ?_ ?_
            · exact Rf.ret ev_c rfl ⟨⟨_, rfl⟩, .inl rfl, rfl⟩
            · refine Rf.skip ?_
              exact Rf.fin ⟨.inl rfl, (some (eI x15)), (some ((e3 eI eI eI) v_start19)), (some ((e3 eI eI eI) v_goal24)), (some ((eO eI) t25)), (some ((eO (e2 eI (eL eI))) t26)), (some ((eO (eL eI)) t42)), (some ((e3 eI eI eI) v_there53)), (some ((eL eI) t50.1.1)), (some (eI t50.1.2)), rfl⟩
  · rintro s5 _ ⟨X6, X7, X8, X9, X10, X11, X12, X13, X14, rfl⟩
    refine Rf.last ?_
    exact Rf.ret ev_c rfl ⟨.inl rfl, rfl⟩
  · intro r r' f z' hk hr; cases hk; exact hr.2
end W
set_option Elab.async false
set_option linter.all false
set_option maxRecDepth 100000
namespace Mi
open PySem L2
section
variable {α β γ σ ρ : Type} {Φ : α → Prop}
theorem rng3O : Pl.rngO 0 (3 : Int) = some [0, 1, 2] := by
  unfold Pl.rngO
  rw [if_pos (by decide)]
  rfl
end
end Mi
set_option Elab.async false
set_option linter.all false
set_option maxRecDepth 100000
set_option maxHeartbeats 1000000
namespace Mi
open PySem L2
/-- a list without doubles is not longer than one that has all of it -/
theorem len_le_of_sub {α : Type} [DecidableEq α] : ∀ {xs ys : List α}, xs.Nodup → (∀ x ∈ xs, x ∈ ys) → xs.length ≤ ys.length
  | [], _, _, _ => Nat.zero_le _
  | x :: xs, ys, hn, hs => by
    rw [List.nodup_cons] at hn
    have hx := hs x List.mem_cons_self
    have := len_le_of_sub (xs := xs) (ys := ys.erase x) hn.2 fun y hy => (List.mem_erase_of_ne (fun e : y = x => hn.1 (e ▸ hy))).mpr (hs y (List.mem_cons_of_mem _ hy))
    rw [List.length_erase_of_mem hx] at this
    have : 0 < ys.length := List.length_pos_of_mem hx
    rw [List.length_cons]
    omega
section
variable {κ α : Type} [DecidableEq κ]
theorem getG_none {kvs : List (κ × α)} {k : κ} (h : k ∉ kvs.map Prod.fst) : getG kvs k = none := by
  unfold getG
  rw [List.find?_eq_none.mpr fun x hx => ?_]
  · rfl
  · rw [decide_eq_true_eq]
    intro e
    exact h (List.mem_map.mpr ⟨x, hx, e⟩)
theorem putG_new {kvs : List (κ × α)} {k : κ} {v : α} (h : k ∉ kvs.map Prod.fst) : putG kvs k v = kvs ++ [(k, v)] := by
  unfold putG
  rw [if_neg]
  rw [Bool.not_eq_true, List.any_eq_false]
  intro x hx
  rw [decide_eq_true_eq]
  intro e
  exact h (List.mem_map.mpr ⟨x, hx, e⟩)
end
end Mi
set_option Elab.async false
set_option linter.all false
set_option maxRecDepth 100000
set_option maxHeartbeats 1000000
namespace W
open PySem L2 Mi
theorem getG_mem {κ α : Type} [DecidableEq κ] {k : κ} : ∀ {kvs : List (κ × α)}, k ∈ kvs.map Prod.fst → ∃ v, getG kvs k = some v ∧ (k, v) ∈ kvs
  | [], h => nomatch h
  | x :: kvs, h => by
    unfold getG
    rw [List.find?_cons]
    by_cases e : x.1 = k
    · rw [decide_eq_true e]
      exact ⟨x.2, rfl, by rw [← e]; exact List.mem_cons_self⟩
    · rw [decide_eq_false e]
      rw [List.map_cons] at h
      rcases List.mem_cons.mp h with h | h
      · exact absurd h.symm e
      · obtain ⟨v, h1, h2⟩ := getG_mem (kvs := kvs) h
        exact ⟨v, h1, List.mem_cons_of_mem _ h2⟩
end W
set_option Elab.async false
set_option linter.all false
set_option maxRecDepth 100000
set_option maxHeartbeats 1000000
namespace W
open PySem L2 Mi
section
variable {κ α : Type} [DecidableEq κ] {k k' : κ} {v : α}
theorem getG_cons {a : κ × α} {kvs : List (κ × α)} : getG (a :: kvs) k = if a.1 = k then some a.2 else getG kvs k := by
  unfold getG
  rw [List.find?_cons]
  by_cases h : a.1 = k
  · rw [decide_eq_true h, if_pos h]; rfl
  · rw [decide_eq_false h, if_neg h]
theorem getG_rep : ∀ {kvs : List (κ × α)}, getG (kvs.map fun kv => if kv.1 = k then (kv.1, v) else kv) k' = if k' = k then (if k ∈ kvs.map Prod.fst then some v else none) else getG kvs k'
  | [] => by by_cases h : k' = k <;> simp [getG, h]
  | a :: kvs => by
    rw [List.map_cons, getG_cons, getG_rep (kvs := kvs)]
    by_cases h : k' = k
    · subst h
      by_cases ha : a.1 = k'
      · simp [ha]
      · have hb : ¬ k' = a.1 := fun e => ha e.symm
        rw [if_neg ha, if_pos rfl, if_pos rfl, if_neg ha]
        have e : (k' ∈ (a :: kvs).map Prod.fst) = (k' ∈ kvs.map Prod.fst) := by rw [List.map_cons, List.mem_cons, eq_false hb, false_or]
        simp only [e]
    · by_cases ha : a.1 = k
      · rw [if_pos ha, if_neg h, if_neg h, getG_cons]
        have : ¬ a.1 = k' := fun e => h (by rw [← e, ha])
        rw [if_neg this, if_neg (show ¬ (a.1, v).1 = k' from this)]
      · rw [if_neg ha, if_neg h, if_neg h, getG_cons]
theorem getG_append {kvs lvs : List (κ × α)} : getG (kvs ++ lvs) k = match getG kvs k with
    | some x => some x
    | none => getG lvs k := by
  induction kvs with
  | nil => rfl
  | cons a kvs ih =>
    rw [List.cons_append, getG_cons, getG_cons, ih]
    by_cases h : a.1 = k
    · rw [if_pos h, if_pos h]
    · rw [if_neg h, if_neg h]
theorem getG_putG {kvs : List (κ × α)} : getG (putG kvs k v) k' = if k' = k then some v else getG kvs k' := by
  by_cases hk : k ∈ kvs.map Prod.fst
  · unfold putG
    have ha : (kvs.any fun kv => decide (kv.1 = k)) = true := by
      obtain ⟨kv, h1, h2⟩ := List.mem_map.mp hk
      exact List.any_eq_true.mpr ⟨kv, h1, decide_eq_true h2⟩
    rw [if_pos ha, getG_rep, if_pos hk]
  · rw [putG_new hk, getG_append, getG_cons]
    by_cases h : k' = k
    · subst h
      rw [getG_none hk, if_pos rfl, if_pos rfl]
    · rw [if_neg h]
      have : ¬ (k, v).1 = k' := fun e => h e.symm
      rw [if_neg this]
      cases getG kvs k' <;> rfl
theorem dput_t {kvs : List (κ × α)} (h : kvs.length < szl) : Pl.dput kvs k v = some (putG kvs k v) := if_pos h
end
end W
set_option Elab.async false
set_option linter.all false
set_option maxRecDepth 100000
set_option maxHeartbeats 1000000
namespace Mi
open PySem L2
end Mi
set_option Elab.async false
set_option linter.all false
set_option maxRecDepth 100000
set_option maxHeartbeats 1000000
namespace W
open PySem L2 Mi
abbrev Prt := Unit × Int × Int × Int × Int × Int × Int
abbrev Plt := Unit × Int × Int × Int × Int × Int
abbrev Msh := List Plt × List Prt
abbrev Pt := Int × Int
abbrev St3 := Int × Int × Int
def sm (i : Int) : Prop := 0 ≤ i ∧ i ≤ 100
structure PrtOk (n : Int) (p : Prt) : Prop where
  a : 0 ≤ p.2.1 ∧ p.2.1 < n
  b : 0 ≤ p.2.2.1 ∧ p.2.2.1 < n
  ne : p.2.1 ≠ p.2.2.1
  x0 : sm p.2.2.2.1
  z0 : sm p.2.2.2.2.1
  x1 : sm p.2.2.2.2.2.1
  z1 : sm p.2.2.2.2.2.2
structure GM (m : Msh) : Prop where
  l0 : 0 < m.1.length
  l1 : m.1.length ≤ 9
  l2 : m.2.length ≤ 14
  ok : ∀ p ∈ m.2, PrtOk m.1.length p
  pl : ∀ q ∈ m.1, ∃ k, sm k ∧ q = ((), k, 0, k, 0, 1)
theorem mesh_t (s : DS) : Tot (p_law_mesh s) fun r => GM r.1 := by
  unfold p_law_mesh
  refine Tot.draw (by decide) (by decide) fun v s1 v0 v1 => Tot.nm ?_
  refine Tot.rngO ⟨by decide, by dsimp only; omega⟩ ?_
  refine Tot.of (comp_em (fun k => ((), k, 0, k, 0, 1)) (by rw [rng_len]; dsimp only; unfold szl; omega) fun x hx => rfl) ?_
  refine Tot.draw (by decide) (by decide) fun v2 s2 v20 v21 => ?_
  refine Tot.rngO ⟨by decide, by dsimp only; omega⟩ ?_
  refine Tot.forR (fun i (st : List Prt × DS) => st.1.length ≤ i.toNat ∧ ∀ p ∈ st.1, PrtOk (1 + v) p) v20 ⟨Nat.zero_le _, fun _ h => nomatch h⟩ (fun i st i0 i1 ⟨h1, h2⟩ => ?_) fun st ⟨h1, h2⟩ => ?_
  · refine Tot.draw (by dsimp only; omega) (by dsimp only; omega) fun a s3 a0 a1 => ?_
    refine Tot.draw (by dsimp only; omega) (by dsimp only; omega) fun b s4 b0 b1 => ?_
    refine Tot.draw (by decide) (by decide) fun x s5 x0 x1 => ?_
    refine Tot.draw (by decide) (by decide) fun z s6 z0 z1 => ?_
    refine Tot.draw (by decide) (by decide) fun l s7 l0 l1 => Tot.nm ?_
    refine Tot.draw (by decide) (by decide) fun c s8 c0 c1 => ?_
    dsimp only at a1 b1 ⊢
    refine Tot.bind (Ψ := fun r : List Prt => r.length ≤ (i + 1).toNat ∧ ∀ p ∈ r, PrtOk (1 + v) p) ?_ fun r hr => ⟨_, rfl, hr⟩
    refine Tot.ite (fun hp => ?_) fun hp => ⟨_, rfl, by omega, h2⟩
    have hne : a ≠ b := by simpa using hp
    refine Tot.of (mul64 (by omega) (by omega)) ?_
    refine Tot.of (mul64 (by omega) (by omega)) ?_
    refine Tot.of (app_t (by unfold szl; omega)) ⟨_, rfl, by rw [List.length_append, List.length_singleton]; omega, fun p hp => ?_⟩
    rcases List.mem_append.mp hp with hp | hp
    · exact h2 p hp
    · rw [List.mem_singleton.mp hp]
      have hc : c = 0 ∨ c = 1 := by omega
      rcases hc with rfl | rfl
      · exact ⟨⟨a0, a1⟩, ⟨b0, b1⟩, hne, by unfold sm; dsimp only; omega, by unfold sm; dsimp only; omega, by unfold sm; dsimp only; omega, by unfold sm; dsimp only; omega⟩
      · exact ⟨⟨a0, a1⟩, ⟨b0, b1⟩, hne, by unfold sm; dsimp only; omega, by unfold sm; dsimp only; omega, by unfold sm; dsimp only; omega, by unfold sm; dsimp only; omega⟩
  · refine ⟨_, rfl, ?_⟩
    have hlen : (List.map (fun k : Int => (((), k, 0, k, 0, 1) : Plt)) (Pl.rng 0 (1 + v))).length = (1 + v).toNat := by rw [List.length_map, rng_len]; omega
    refine ⟨by dsimp only; omega, by dsimp only; omega, by dsimp only; omega, fun p hp => ?_, fun q hq => ?_⟩
    · dsimp only
      rw [hlen, show ((1 + v).toNat : Int) = 1 + v by omega]
      exact h2 p hp
    · obtain ⟨k, hk, rfl⟩ := List.mem_map.mp hq
      have := rng_mem.mp hk
      exact ⟨k, by unfold sm; omega, rfl⟩
def ap (a b : Pt) : Int := p_law_apart a b
theorem ap_nn (a b : Pt) : 0 ≤ ap a b := by
  unfold ap p_law_apart
  split <;> split <;> omega
theorem ap_self (a : Pt) : ap a a = 0 := by
  unfold ap p_law_apart
  split <;> split <;> omega
theorem ap_tri (a b c : Pt) : ap a c ≤ ap a b + ap b c := by
  unfold ap p_law_apart
  (repeat' split) <;> omega
def md (m : Msh) (k : Int) : Pt := match m.2[k.toNat]? with
  | some P => p_law_middle P
  | none => (0, 0)
def Jn (m : Msh) (k v q : Int) : Prop := ∃ P, 0 ≤ k ∧ m.2[k.toNat]? = some P ∧ ((P.2.1 = v ∧ P.2.2.1 = q) ∨ (P.2.2.1 = v ∧ P.2.1 = q))
def Ix (m : Msh) (k : Int) : Prop := 0 ≤ k ∧ k < m.2.length
section
variable {m : Msh} (g : GM m)
theorem Jn.ix {k v q : Int} (h : Jn m k v q) : Ix m k := by
  obtain ⟨P, h0, h1, _⟩ := h
  have := (List.getElem?_eq_some_iff.mp h1).1
  exact ⟨h0, by omega⟩
theorem Jn.sym {k v q : Int} (h : Jn m k v q) : Jn m k q v := by
  obtain ⟨P, h0, h1, h2⟩ := h
  exact ⟨P, h0, h1, h2.symm.imp And.symm And.symm⟩
include g in
theorem Jn.uq {k v q r : Int} (h : Jn m k v q) (h' : Jn m k v r) : q = r := by
  obtain ⟨P, h0, h1, h2⟩ := h
  obtain ⟨P', _, h1', h2'⟩ := h'
  rw [h1] at h1'
  cases h1'
  have := (g.ok P (List.mem_of_getElem? h1)).ne
  rcases h2 with ⟨a, b⟩ | ⟨a, b⟩ <;> rcases h2' with ⟨c, d⟩ | ⟨c, d⟩ <;> omega
include g in
theorem Jn.rng {k v q : Int} (h : Jn m k v q) : (0 ≤ v ∧ v < m.1.length) ∧ 0 ≤ q ∧ q < m.1.length := by
  obtain ⟨P, h0, h1, h2⟩ := h
  have ok := g.ok P (List.mem_of_getElem? h1)
  have a := ok.a
  have b := ok.b
  rcases h2 with ⟨c, d⟩ | ⟨c, d⟩ <;> omega
theorem at_md {k : Int} (h : Ix m k) : ∃ P, Pl.at_ m.2 k = some P ∧ p_law_middle P = md m k ∧ P ∈ m.2 ∧ m.2[k.toNat]? = some P := by
  obtain ⟨P, e, e2⟩ := at_in h.1 h.2
  exact ⟨P, e2, by unfold md; rw [e], List.mem_of_getElem? e, e⟩
end
def cF (m : Msh) : Pt → List Int → Int
  | _, [] => 0
  | x, k :: r => ap x (md m k) + cF m (md m k) r
def lP (m : Msh) : Pt → List Int → Pt
  | x, [] => x
  | _, k :: r => lP m (md m k) r
def tC (m : Msh) (x : Pt) (w : List Int) (e : Pt) : Int := cF m x w + ap (lP m x w) e
theorem cF_nn {m : Msh} : ∀ {w : List Int} {x : Pt}, 0 ≤ cF m x w
  | [], _ => Int.le_refl _
  | k :: r, x => by
    have := ap_nn x (md m k)
    have := cF_nn (m := m) (w := r) (x := md m k)
    rw [cF]
    omega
theorem cF_app {m : Msh} : ∀ {u v : List Int} {x : Pt}, cF m x (u ++ v) = cF m x u + cF m (lP m x u) v
  | [], v, x => by rw [List.nil_append, cF, lP]; omega
  | k :: u, v, x => by rw [List.cons_append, cF, cF, lP, cF_app (u := u)]; omega
theorem lP_app {m : Msh} : ∀ {u v : List Int} {x : Pt}, lP m x (u ++ v) = lP m (lP m x u) v
  | [], v, x => rfl
  | k :: u, v, x => by rw [List.cons_append, lP, lP, lP_app (u := u)]
def dbl (p : St3) : Pt := (2 * p.1, 2 * p.2.1)
def smP (p : St3) : Prop := sm p.1 ∧ sm p.2.1
section
variable {m : Msh} {a b : St3}
theorem lcost_loop : ∀ {w : List Int} {c : Int} {x : Pt}, (∀ k ∈ w, Ix m k) → Pl.forN (fun (x7 : Int) (s4 : Int × (Int × Int)) =>
    (Pl.at_ m.2 x7).bind fun t8 =>
    (some ((p_law_middle t8))).bind fun v_middle_here9 =>
    (some ((s4.1 + (p_law_apart s4.2 v_middle_here9)))).bind fun v_paid10 =>
    some (v_paid10, v_middle_here9)) w (c, x) = some (c + cF m x w, lP m x w)
  | [], c, x, _ => by rw [Pl.forN, cF, lP, Int.add_zero]
  | k :: w, c, x, h => by
    obtain ⟨P, e1, e2, _⟩ := at_md (h k List.mem_cons_self)
    rw [Pl.forN, e1]
    show Pl.forN _ w (c + p_law_apart x (p_law_middle P), p_law_middle P) = _
    rw [e2, lcost_loop fun k hk => h k (List.mem_cons_of_mem _ hk), cF, lP]
    show some (c + ap x (md m k) + _, _) = _
    rw [Int.add_assoc]
theorem dbl_t (h : smP a) {α : Type} {Φ : α → Prop} {K : Int → Int → Option α} (k : Tot (K (2 * a.1) (2 * a.2.1)) Φ) : Tot ((Pl.mul 2 a.1).bind fun t1 => (Pl.mul 2 a.2.1).bind fun t2 => K t1 t2) Φ := by
  unfold smP sm at h
  exact Tot.of (mul64 (by omega) (by omega)) (Tot.of (mul64 (by omega) (by omega)) k)
theorem lcost_t (ha : smP a) (hb : smP b) {w : List Int} (hw : ∀ k ∈ w, Ix m k) : p_law_cost m a b w = some (tC m (dbl a) w (dbl b)) := by
  refine Tot.get ?_
  unfold p_law_cost
  refine dbl_t ha (Tot.nm ?_)
  refine Tot.of (lcost_loop hw) ?_
  refine dbl_t hb ⟨_, rfl, ?_⟩
  unfold tC
  rw [Int.zero_add]
  rfl
def prs : List Pt → List Int
  | [] => []
  | [_] => []
  | x :: y :: r => ap x y :: prs (y :: r)
theorem prs_len : ∀ xs : List Pt, (prs xs).length = xs.length - 1
  | [] => rfl
  | [_] => rfl
  | x :: y :: r => by rw [prs, List.length_cons, prs_len (y :: r)]; simp
theorem prs_get : ∀ (xs : List Pt) (i : Nat) (p q : Pt), xs[i]? = some p → xs[i + 1]? = some q → (prs xs)[i]? = some (ap p q)
  | [], i, p, q, h, _ => by simp at h
  | [_], i, p, q, _, h => by simp at h
  | x :: y :: r, 0, p, q, h1, h2 => by
    simp only [List.getElem?_cons_zero, List.getElem?_cons_succ] at h1 h2
    cases h1
    cases h2
    rfl
  | x :: y :: r, i + 1, p, q, h1, h2 => by
    rw [prs, List.getElem?_cons_succ]
    exact prs_get (y :: r) i p q (by simpa using h1) (by simpa using h2)
theorem prs_sum : ∀ {w : List Int} {x e : Pt}, (prs (x :: (w.map (md m) ++ [e]))).sum = tC m x w e
  | [], x, e => by
    rw [List.map_nil, List.nil_append, prs, prs, List.sum_cons, List.sum_nil]
    unfold tC
    rw [cF, lP]
    omega
  | k :: w, x, e => by
    rw [List.map_cons, List.cons_append, prs, List.sum_cons, prs_sum]
    unfold tC
    rw [cF, lP]
    omega
theorem cost_t (ha : smP a) (hb : smP b) {w : List Int} (hw : ∀ k ∈ w, Ix m k) (hl : w.length ≤ 1000) : p_cost m a b w = some (tC m (dbl a) w (dbl b)) := by
  refine Tot.get ?_
  unfold p_cost
  refine dbl_t ha (Tot.nm ?_)
  refine Tot.of (comp_em (md m) (by unfold szl; omega) fun k hk => ?_) ?_
  · obtain ⟨P, e1, e2, _⟩ := at_md (hw k hk)
    rw [e1]
    exact congrArg some e2
  refine Tot.of (cat_t (by rw [List.length_map]; simp; unfold szl; omega)) ?_
  refine dbl_t hb ?_
  refine Tot.of (app_t (by simp; unfold szl; omega)) ?_
  generalize hps : [(2 * a.1, 2 * a.2.1)] ++ w.map (md m) ++ [(2 * b.1, 2 * b.2.1)] = ps
  have hlen : ps.length = w.length + 2 := by rw [← hps]; simp
  refine Tot.rngO ⟨by decide, by omega⟩ ?_
  refine Tot.of (r := prs ps) ?_ ⟨_, rfl, ?_⟩
  · rw [comp_em (fun i => ((prs ps)[i.toNat]?).getD 0) (by rw [rng_len]; unfold szl; omega) fun i hi => ?_]
    · refine congrArg some (List.ext_getElem? fun i => ?_)
      rw [List.getElem?_map]
      unfold Pl.rng
      rw [List.getElem?_map]
      by_cases c : i < ps.length - 1
      · rw [List.getElem?_range (by omega)]
        obtain ⟨v, hv⟩ : ∃ v, (prs ps)[i]? = some v := ⟨_, List.getElem?_eq_getElem (by rw [prs_len]; exact c)⟩
        simp [hv]
      · rw [List.getElem?_eq_none (l := List.range _) (by simp; omega), List.getElem?_eq_none (by rw [prs_len]; omega)]
        rfl
    · have hi := rng_mem.mp hi
      obtain ⟨p, e1, e2⟩ := at_in (xs := ps) hi.1 (by omega)
      obtain ⟨q, e3, e4⟩ := at_in (xs := ps) (i := i + 1) (by omega) (by omega)
      rw [e2, e4]
      show some (ap p q) = _
      rw [show (i + 1).toNat = i.toNat + 1 by omega] at e3
      rw [prs_get ps _ p q e1 e3]
      rfl
  · rw [← hps]
    exact prs_sum
end
def Wy (m : Msh) : Int → List Int → Int → Prop
  | v, [], w => v = w
  | v, e :: es, w => ∃ q, Jn m e v q ∧ Wy m q es w
theorem Wy.ix {m : Msh} : ∀ {w : List Int} {v q : Int}, Wy m v w q → ∀ k ∈ w, Ix m k
  | [], _, _, _, _, h => nomatch h
  | e :: es, v, q, ⟨r, h1, h2⟩, k, h => by
    rcases List.mem_cons.mp h with rfl | h
    · exact h1.ix
    · exact Wy.ix h2 k h
theorem Wy.snoc {m : Msh} {k : Int} : ∀ {w : List Int} {v q r : Int}, Wy m v w q → Jn m k q r → Wy m v (w ++ [k]) r
  | [], v, q, r, h, j => by cases h; exact ⟨r, j, rfl⟩
  | e :: es, v, q, r, ⟨x, h1, h2⟩, j => ⟨x, h1, Wy.snoc h2 j⟩
theorem Wy.unsnoc {m : Msh} {k : Int} : ∀ {w : List Int} {v r : Int}, Wy m v (w ++ [k]) r → ∃ q, Wy m v w q ∧ Jn m k q r
  | [], v, r, ⟨x, h1, h2⟩ => by cases h2; exact ⟨v, rfl, h1⟩
  | e :: es, v, r, ⟨x, h1, h2⟩ => by
    obtain ⟨q, h3, h4⟩ := Wy.unsnoc h2
    exact ⟨q, ⟨x, h1, h3⟩, h4⟩
theorem plates_t {m : Msh} (g : GM m) {a b : Int} {w : List Int} (h : Wy m a w b) (hl : w.length ≤ 1000) : ∃ pl, p_plates_of m a w = some (some pl) ∧ Pl.at_ pl ((pl.length : Int) - 1) = some b := by
  have main : Tot (p_plates_of m a w) fun r => ∃ pl, r = some pl ∧ Pl.at_ pl ((pl.length : Int) - 1) = some b := by
    unfold p_plates_of
    refine Tot.nm ?_
    refine Tot.forO (fun xs (f : List Int) => ∃ pre q, f = pre ++ [q] ∧ Wy m q xs b ∧ f.length + xs.length ≤ 2000) (fun _ => False) (fun _ => False) ⟨[], a, rfl, h, by simp; omega⟩ ?_ ?_ fun _ h => h.elim
    · rintro k xs f ⟨pre, q, rfl, ⟨r, h1, h2⟩, h3⟩
      rw [List.length_cons] at h3
      obtain ⟨P, e1, _, e3, e4⟩ := at_md h1.ix
      refine Tot.of e1 (Tot.nm (Tot.of at_last ?_))
      obtain ⟨P', _, e5, e6⟩ := h1
      rw [e4] at e5
      cases e5
      have ne := (g.ok P e3).ne
      rcases e6 with ⟨c1, c2⟩ | ⟨c1, c2⟩
      · refine Tot.iteT (decide_eq_true c1.symm) ?_
        refine Tot.of (app_t (by unfold szl; omega)) ⟨_, rfl, pre ++ [q], r, by dsimp only; rw [c2], h2, by rw [List.length_append, List.length_singleton]; omega⟩
      · refine Tot.iteF (decide_eq_false (by dsimp only; omega)) ?_
        refine Tot.of at_last ?_
        refine Tot.iteT (decide_eq_true c1.symm) ?_
        refine Tot.of (app_t (by unfold szl; omega)) ⟨_, rfl, pre ++ [q], r, by dsimp only; rw [c2], h2, by rw [List.length_append, List.length_singleton]; omega⟩
    · rintro f (⟨pre, q, rfl, h1, h2⟩ | h)
      · cases h1
        refine ⟨_, rfl, _, rfl, at_t (n := pre.length) (by rw [List.length_append, List.length_singleton]; omega) ?_⟩
        rw [List.getElem?_append_right (Nat.le_refl _), Nat.sub_self]
        rfl
      · exact h.elim
  obtain ⟨r, e, pl, rfl, h⟩ := main
  exact ⟨pl, e, h⟩
theorem pick_t (row : List Int) (h : 0 < row.length) (hl : row.length ≤ 1000) (s : DS) : Tot (p_law_pick row s) fun r => r.1 ∈ row := by
  unfold p_law_pick
  refine Tot.draw (by omega) (by omega) fun v s1 v0 v1 => ?_
  obtain ⟨x, e, e2⟩ := at_in (xs := row) v0 v1
  exact Tot.of e2 ⟨_, rfl, List.mem_of_getElem? e⟩
theorem walk_t {m : Msh} (g : GM m) (a : Int) (s : DS) : Tot (p_law_walk m a s) fun r => (∀ k ∈ r.1.1, Ix m k) ∧ r.1.1.length ≤ 5 := by
  unfold p_law_walk
  refine Tot.draw (by decide) (by decide) fun v s1 v0 v1 => ?_
  refine Tot.rngO ⟨by decide, by dsimp only; omega⟩ ?_
  refine Tot.forR (fun i (st : List Int × Int × DS) => (∀ k ∈ st.1, Ix m k) ∧ st.1.length ≤ i.toNat) v0 ⟨(fun _ h => nomatch h), Nat.zero_le _⟩ (fun i st i0 i1 ⟨h1, h2⟩ => ?_) fun st ⟨h1, h2⟩ => ⟨_, rfl, h1, by dsimp only; omega⟩
  have hl := g.l2
  refine Tot.rngO ⟨by decide, by omega⟩ ?_
  refine Tot.bind (Ψ := fun r : List Int => (∀ k ∈ r, Ix m k) ∧ r.length ≤ 14) ?_ fun r hr => ?_
  · refine ⟨_, comp_e (fun k => match m.2[k.toNat]? with | some P => [P.2.1, P.2.2.1].any fun j => decide (j = st.2.1) | none => false) id (by rw [rng_len]; unfold szl; omega) fun k hk => ⟨?_, fun _ => rfl⟩, fun k hk => ?_, ?_⟩
    · have hk := rng_mem.mp hk
      obtain ⟨P, e1, _, _, e4⟩ := at_md (m := m) (k := k) ⟨hk.1, hk.2⟩
      rw [e1, e4]
      rfl
    · rw [List.map_id, List.mem_filter] at hk
      exact rng_mem.mp hk.1
    · rw [List.map_id]
      refine Nat.le_trans (List.length_filter_le _ _) ?_
      rw [rng_len]
      omega
  · refine Tot.bind (Ψ := fun j : List Int × Int × DS => (∀ k ∈ j.1, Ix m k) ∧ j.1.length ≤ (i + 1).toNat) ?_ fun j hj => ⟨_, rfl, hj⟩
    refine Tot.ite (fun hp => ?_) fun hp => ⟨_, rfl, h1, by dsimp only; omega⟩
    have hp : (0 : Int) < r.length := by simpa using hp
    refine Tot.bind (pick_t r (by omega) (by omega) _) fun q hq => ?_
    have hx := hr.1 _ hq
    refine Tot.of (app_t (by unfold szl; omega)) ?_
    obtain ⟨P, e1, _⟩ := at_md hx
    refine Tot.of e1 (Tot.of e1 ?_)
    have two : ∀ c : Bool, ∃ r, Pl.atO [none, some P.2.1, some P.2.2.1, some P.2.2.2.1, some P.2.2.2.2.1, some P.2.2.2.2.2.1, some P.2.2.2.2.2.2] ((1 : Int) + (if c = true then (1 : Int) else 0)) = some r := fun c => by cases c <;> exact ⟨_, rfl⟩
    obtain ⟨x, ex⟩ := two (decide (P.2.1 = st.2.1))
    refine Tot.of ex ⟨_, rfl, fun k hk => ?_, by rw [List.length_append, List.length_singleton]; omega⟩
    rcases List.mem_append.mp hk with hk | hk
    · exact h1 k hk
    · rw [List.mem_singleton.mp hk]; exact hx
end W
set_option Elab.async false
set_option linter.all false
set_option maxRecDepth 100000
set_option maxHeartbeats 1000000
namespace W
open PySem L2 Mi
def Pk (m : Msh) : Int → List Pt → Prop
  | _, [] => True
  | v, s :: r => Jn m s.1 v s.2 ∧ Pk m s.2 r
def ePl : Int → List Pt → Int
  | v, [] => v
  | _, s :: r => ePl s.2 r
abbrev ks (l : List Pt) : List Int := l.map Prod.fst
section
variable {m : Msh}
theorem Pk_app : ∀ {u r : List Pt} {v : Int}, Pk m v (u ++ r) ↔ Pk m v u ∧ Pk m (ePl v u) r
  | [], r, v => by rw [List.nil_append, Pk, ePl, true_and]
  | s :: u, r, v => by rw [List.cons_append, Pk, Pk, ePl, Pk_app (u := u), and_assoc]
theorem ePl_app : ∀ {u r : List Pt} {v : Int}, ePl v (u ++ r) = ePl (ePl v u) r
  | [], r, v => rfl
  | s :: u, r, v => by rw [List.cons_append, ePl, ePl, ePl_app (u := u)]
theorem Wy_Pk : ∀ {w : List Int} {v q : Int}, Wy m v w q ↔ ∃ l, ks l = w ∧ Pk m v l ∧ ePl v l = q
  | [], v, q => by
    constructor
    · rintro rfl
      exact ⟨[], rfl, trivial, rfl⟩
    · rintro ⟨l, h1, h2, h3⟩
      cases l with
      | nil => exact h3
      | cons s l => cases h1
  | e :: es, v, q => by
    constructor
    · rintro ⟨r, h1, h2⟩
      obtain ⟨l, a, b, c⟩ := Wy_Pk.mp h2
      exact ⟨(e, r) :: l, by show e :: ks l = _; rw [a], ⟨h1, b⟩, c⟩
    · rintro ⟨l, h1, h2, h3⟩
      cases l with
      | nil => cases h1
      | cons s l =>
        have h1 : s.1 :: ks l = e :: es := h1
        injection h1 with h1 h4
        subst h1
        exact ⟨s.2, h2.1, Wy_Pk.mpr ⟨l, h4, h2.2, h3⟩⟩
theorem dup_split {α : Type} [DecidableEq α] : ∀ {l : List α}, ¬ l.Nodup → ∃ a u v w, l = u ++ a :: (v ++ a :: w)
  | [], h => absurd List.nodup_nil h
  | x :: t, h => by
    by_cases c : x ∈ t
    · obtain ⟨v, w, e⟩ := List.append_of_mem c
      exact ⟨x, [], v, w, by rw [e]; rfl⟩
    · have : ¬ t.Nodup := fun n => h (List.nodup_cons.mpr ⟨c, n⟩)
      obtain ⟨a, u, v, w, e⟩ := dup_split this
      exact ⟨a, x :: u, v, w, by rw [e]; rfl⟩
theorem last_app {α : Type} {u w : List α} {a : α} : (u ++ a :: w).getLast? = some ((w.getLast?).getD a) := by
  rw [List.getLast?_append, List.getLast?_cons]
  rfl
theorem cut_w {v : Int} {x : Pt} {a : Pt} {u p w : List Pt} (h : Pk m v (u ++ a :: (p ++ a :: w))) : Pk m v (u ++ a :: w) ∧ cF m x (ks (u ++ a :: w)) ≤ cF m x (ks (u ++ a :: (p ++ a :: w))) := by
  obtain ⟨h1, h2, h3⟩ := Pk_app.mp h
  obtain ⟨h4, h5⟩ := Pk_app.mp h3
  refine ⟨Pk_app.mpr ⟨h1, h2, h5.2⟩, ?_⟩
  simp only [ks, List.map_append, List.map_cons, cF_app, cF]
  have := cF_nn (m := m) (w := p.map Prod.fst) (x := md m a.1)
  have := ap_nn (lP m (md m a.1) (p.map Prod.fst)) (md m a.1)
  omega
theorem short_w {v : Int} {x : Pt} {s : Pt} : ∀ (n : Nat) (l : List Pt), l.length ≤ n → Pk m v (l ++ [s]) → ∃ l', Pk m v (l' ++ [s]) ∧ (l' ++ [s]).Nodup ∧ cF m x (ks (l' ++ [s])) ≤ cF m x (ks (l ++ [s])) := by
  intro n
  induction n with
  | zero =>
    intro l hl h
    have : l = [] := List.length_eq_zero_iff.mp (by omega)
    subst this
    exact ⟨[], h, by simp, Int.le_refl _⟩
  | succ n ih =>
    intro l hl h
    by_cases c : (l ++ [s]).Nodup
    · exact ⟨l, h, c, Int.le_refl _⟩
    · obtain ⟨a, u, p, w, e⟩ := dup_split c
      have hc := cut_w (x := x) (e ▸ h)
      have last : ∃ l2, u ++ a :: w = l2 ++ [s] ∧ l2.length ≤ n := by
        have e1 : ((u ++ a :: p) ++ a :: w).getLast? = some s := by
          rw [show (u ++ a :: p) ++ a :: w = u ++ a :: (p ++ a :: w) by simp, ← e]
          simp
        have hlen := congrArg List.length e
        simp only [List.length_append, List.length_cons, List.length_nil] at hlen
        have e2 : (u ++ a :: w).getLast? = some s := by
          rw [← e1, last_app, last_app]
        obtain ⟨l2, e3⟩ := List.getLast?_eq_some_iff.mp e2
        refine ⟨l2, e3, ?_⟩
        have hlen2 := congrArg List.length e3
        simp only [List.length_append, List.length_cons, List.length_nil] at hlen2
        omega
      obtain ⟨l2, e2, h2⟩ := last
      rw [e2] at hc
      obtain ⟨l', q1, q2, q3⟩ := ih l2 h2 hc.1
      refine ⟨l', q1, q2, Int.le_trans q3 ?_⟩
      rw [e]
      exact hc.2
def st1 (m : Msh) (k : Int) : List Pt := match m.2[k.toNat]? with
  | some P => [(k, P.2.1), (k, P.2.2.1)]
  | none => []
def sts (m : Msh) : List Pt := (Pl.rng 0 (m.2.length : Int)).flatMap (st1 m)
theorem flat_len {α β : Type} {f : α → List β} {n : Nat} : ∀ {xs : List α}, (∀ x ∈ xs, (f x).length ≤ n) → (xs.flatMap f).length ≤ n * xs.length
  | [], _ => by simp
  | x :: xs, h => by
    rw [List.flatMap_cons, List.length_append, List.length_cons]
    have h1 := h x List.mem_cons_self
    have h2 := flat_len (xs := xs) fun y hy => h y (List.mem_cons_of_mem _ hy)
    rw [Nat.mul_succ]
    omega
theorem sts_len : (sts m).length ≤ 2 * m.2.length := by
  have := flat_len (f := st1 m) (n := 2) (xs := Pl.rng 0 (m.2.length : Int)) (fun x _ => by
    unfold st1
    cases m.2[x.toNat]? with
    | none => exact Nat.zero_le _
    | some P => exact Nat.le_refl _)
  rw [rng_len] at this
  unfold sts
  omega
theorem Jn.sts {k v q : Int} (h : Jn m k v q) : (k, q) ∈ sts m := by
  have hi := h.ix
  obtain ⟨P, h0, h1, h2⟩ := h
  refine List.mem_flatMap.mpr ⟨k, rng_mem.mpr hi, ?_⟩
  unfold st1
  rw [h1]
  dsimp only
  rcases h2 with ⟨_, rfl⟩ | ⟨_, rfl⟩ <;> simp
theorem Pk.sts : ∀ {l : List Pt} {v : Int}, Pk m v l → ∀ s ∈ l, s ∈ sts m
  | [], _, _, _, h => nomatch h
  | a :: l, v, ⟨h1, h2⟩, s, h => by
    rcases List.mem_cons.mp h with rfl | h
    · exact h1.sts
    · exact Pk.sts h2 s h
end
abbrev BD := List (Pt × Int)
theorem putG_keys {κ α : Type} [DecidableEq κ] {kvs : List (κ × α)} {k : κ} {v : α} (h : (kvs.map Prod.fst).Nodup) : ((putG kvs k v).map Prod.fst).Nodup ∧ ∀ j ∈ (putG kvs k v).map Prod.fst, j = k ∨ j ∈ kvs.map Prod.fst := by
  unfold putG
  split
  · have e : (kvs.map fun kv => if kv.1 = k then (kv.1, v) else kv).map Prod.fst = kvs.map Prod.fst := by
      rw [List.map_map]
      refine List.map_congr_left fun x _ => ?_
      show (if x.1 = k then (x.1, v) else x).1 = x.1
      split <;> rfl
    rw [e]
    exact ⟨h, fun j hj => .inr hj⟩
  · rename_i hn
    have hk : k ∉ kvs.map Prod.fst := fun hm => by
      obtain ⟨kv, h1, h2⟩ := List.mem_map.mp hm
      exact hn (List.any_eq_true.mpr ⟨kv, h1, decide_eq_true h2⟩)
    rw [List.map_append, List.nodup_append]
    refine ⟨⟨h, by simp, fun a ha b hb e => ?_⟩, fun j hj => ?_⟩
    · simp only [List.map_cons, List.map_nil, List.mem_singleton] at hb
      rw [e, hb] at ha
      exact hk ha
    · rcases List.mem_append.mp hj with hj | hj
      · exact .inr hj
      · simp only [List.map_cons, List.map_nil, List.mem_singleton] at hj
        exact .inl hj
structure BI (m : Msh) (v : Int) (x : Pt) (B : BD) : Prop where
  nd : (B.map Prod.fst).Nodup
  so : ∀ s c, getG B s = some c → ∃ l, Pk m v (l ++ [s]) ∧ c = cF m x (ks (l ++ [s]))
def Low (B B' : BD) : Prop := ∀ s c, getG B s = some c → ∃ c', getG B' s = some c' ∧ c' ≤ c
theorem Low.refl {B : BD} : Low B B := fun s c h => ⟨c, h, Int.le_refl _⟩
theorem Low.trans {A B C : BD} (h : Low A B) (k : Low B C) : Low A C := fun s c e => by
  obtain ⟨c1, e1, l1⟩ := h s c e
  obtain ⟨c2, e2, l2⟩ := k s c1 e1
  exact ⟨c2, e2, Int.le_trans l2 l1⟩
theorem getG_key {κ α : Type} [DecidableEq κ] {kvs : List (κ × α)} {k : κ} {v : α} (h : getG kvs k = some v) : k ∈ kvs.map Prod.fst := by
  by_cases c : k ∈ kvs.map Prod.fst
  · exact c
  · rw [getG_none c] at h
    cases h
theorem key_getG {κ α : Type} [DecidableEq κ] {kvs : List (κ × α)} {k : κ} (h : k ∈ kvs.map Prod.fst) : ∃ v, getG kvs k = some v := by
  obtain ⟨v, e, _⟩ := getG_mem h
  exact ⟨v, e⟩
section
variable {m : Msh} (g : GM m) {v : Int} {x : Pt}
include g in
theorem BI.len {B : BD} (h : BI m v x B) : B.length ≤ 28 := by
  have := len_le_of_sub (ys := sts m) h.nd fun s hs => by
    obtain ⟨c, e⟩ := key_getG hs
    obtain ⟨l, h1, _⟩ := h.so s c e
    exact h1.sts s (by simp)
  rw [List.length_map] at this
  have := sts_len (m := m)
  have := g.l2
  omega
theorem BI.put {B : BD} (h : BI m v x B) {s : Pt} {c : Int} {l : List Pt} (hl : Pk m v (l ++ [s])) (hc : c = cF m x (ks (l ++ [s]))) : BI m v x (putG B s c) := by
  refine ⟨(putG_keys h.nd).1, fun t d e => ?_⟩
  rw [getG_putG] at e
  split at e
  · rename_i ht
    cases e
    rw [ht]
    exact ⟨l, hl, hc⟩
  · exact h.so t d e
theorem Low.put {B : BD} {s : Pt} {c : Int} (h : ∀ d, getG B s = some d → c ≤ d) : Low B (putG B s c) := fun t d e => by
  rw [getG_putG]
  split
  · rename_i ht
    rw [ht] at e
    exact ⟨c, rfl, h d e⟩
  · exact ⟨d, e, Int.le_refl _⟩
abbrev l7 (P : Prt) : List (Option Int) := [none, some P.2.1, some P.2.2.1, some P.2.2.2.1, some P.2.2.2.2.1, some P.2.2.2.2.2.1, some P.2.2.2.2.2.2]
/-- the two ends of a portal, as seen from a side -/
def sd (P : Prt) (side : Int) : Int × Int := if side = 1 then (P.2.1, P.2.2.1) else (P.2.2.1, P.2.1)
theorem sd_at {P : Prt} {side : Int} (h : side = 1 ∨ side = 2) : Pl.atO (l7 P) side = some (sd P side).1 ∧ Pl.atO (l7 P) (3 - side) = some (sd P side).2 := by
  rcases h with rfl | rfl <;> exact ⟨rfl, rfl⟩
theorem sd_jn {P : Prt} {side k : Int} (h0 : 0 ≤ k) (hP : m.2[k.toNat]? = some P) : Jn m k (sd P side).1 (sd P side).2 := by
  unfold sd
  split
  · exact ⟨P, h0, hP, .inl ⟨rfl, rfl⟩⟩
  · exact ⟨P, h0, hP, .inr ⟨rfl, rfl⟩⟩
theorem jn_sd {k q r : Int} {P : Prt} (hP : m.2[k.toNat]? = some P) (h : Jn m k q r) : ∃ side, (side = 1 ∨ side = 2) ∧ sd P side = (q, r) := by
  obtain ⟨P', _, e, h⟩ := h
  rw [hP] at e
  cases e
  rcases h with ⟨rfl, rfl⟩ | ⟨rfl, rfl⟩
  · exact ⟨1, .inl rfl, rfl⟩
  · exact ⟨2, .inr rfl, rfl⟩
/-- one portal from one side -/
def relax (m : Msh) (s : Pt) (k : Int) (side : Int) (B : BD) : Option BD :=
  (getG B (s.1, s.2)).bind fun t50 =>
  (Pl.at_ m.2 s.1).bind fun t51 =>
  (Pl.at_ m.2 k).bind fun t52 =>
  (some ((t50 + (p_law_apart (p_law_middle t51) (p_law_middle t52))))).bind fun v_more53 =>
  (Pl.at_ m.2 k).bind fun t54 =>
  (Pl.atO [none, some t54.2.1, some t54.2.2.1, some t54.2.2.2.1, some t54.2.2.2.2.1, some t54.2.2.2.2.2.1, some t54.2.2.2.2.2.2] ((3 : Int) - side)).bind fun t55 =>
  (some ((k, t55))).bind fun v_key56 =>
  (Pl.at_ m.2 k).bind fun t57 =>
  (Pl.atO [none, some t57.2.1, some t57.2.2.1, some t57.2.2.2.1, some t57.2.2.2.2.1, some t57.2.2.2.2.2.1, some t57.2.2.2.2.2.2] side).bind fun t58 =>
  ((if ((decide (t58 = s.2)) && (decide (v_more53 < ((getG B v_key56).getD (v_more53 + (1 : Int)))))) = true then
  (Pl.dput B v_key56 v_more53).bind fun v_paid60 =>
  some (v_paid60)
  else
  some (B)) : Option ((List ((Int × Int) × Int)))).bind fun j59 =>
  some (j59)
include g in
theorem relax_t {B : BD} (h : BI m v x B) {s : Pt} {k side c : Int} (hs : getG B s = some c) (hk : Ix m k) (hd : side = 1 ∨ side = 2) :
    Tot (relax m s k side B) fun B' => BI m v x B' ∧ Low B B' ∧ ∀ P, m.2[k.toNat]? = some P → (sd P side).1 = s.2 → ∃ c', getG B' (k, (sd P side).2) = some c' ∧ c' ≤ c + ap (md m s.1) (md m k) := by
  obtain ⟨l, p1, p2⟩ := h.so s c hs
  have js : Jn m s.1 (ePl v l) s.2 := (Pk_app.mp p1).2.1
  obtain ⟨Q, f1, f2, _, _⟩ := at_md js.ix
  obtain ⟨P, e1, e2, _, e4⟩ := at_md hk
  obtain ⟨a1, a2⟩ := sd_at (P := P) hd
  unfold relax
  refine Tot.of (show getG B (s.1, s.2) = some c from hs) (Tot.of f1 (Tot.of e1 (Tot.nm (Tot.of e1 (Tot.of a2 (Tot.nm (Tot.of e1 (Tot.of a1 ?_))))))))
  rw [f2, e2]
  change Tot _ fun B' => BI m v x B' ∧ Low B B' ∧ ∀ P, m.2[k.toNat]? = some P → (sd P side).1 = s.2 → ∃ c', getG B' (k, (sd P side).2) = some c' ∧ c' ≤ c + p_law_apart (md m s.1) (md m k)
  generalize hn : c + p_law_apart (md m s.1) (md m k) = n
  have hn : c + ap (md m s.1) (md m k) = n := hn
  have hlen := h.len g
  refine Tot.bind (Ψ := fun B' => BI m v x B' ∧ Low B B' ∧ ∀ P, m.2[k.toNat]? = some P → (sd P side).1 = s.2 → ∃ c', getG B' (k, (sd P side).2) = some c' ∧ c' ≤ n) ?_ fun r hr => ⟨_, rfl, hr⟩
  refine Tot.ite (fun hp => ?_) fun hp => ?_
  · rw [Bool.and_eq_true, decide_eq_true_eq, decide_eq_true_eq] at hp
    refine Tot.of (dput_t (by unfold szl; omega)) ⟨_, rfl, h.put (l := l ++ [s]) ?_ ?_, Low.put fun d e => ?_, fun P' eP _ => ?_⟩
    · refine Pk_app.mpr ⟨p1, ?_, trivial⟩
      rw [ePl_app]
      show Jn m k s.2 _
      rw [← hp.1]
      exact sd_jn hk.1 e4
    · rw [← hn, p2]
      simp only [ks, List.map_append, List.map_cons, List.map_nil, cF_app, cF, lP_app, lP]
      omega
    · rw [e] at hp
      have := hp.2
      simp only [Option.getD_some] at this
      omega
    · rw [e4] at eP
      cases eP
      rw [getG_putG, if_pos rfl]
      exact ⟨n, rfl, Int.le_refl _⟩
  · refine ⟨_, rfl, h, Low.refl, fun P' eP e => ?_⟩
    rw [e4] at eP
    cases eP
    rw [decide_eq_true e, Bool.true_and, decide_eq_false_iff_not] at hp
    cases hb : getG B (k, (sd P side).2) with
    | none =>
      rw [hb] at hp
      simp only [Option.getD_none] at hp
      omega
    | some d =>
      rw [hb] at hp
      simp only [Option.getD_some] at hp
      exact ⟨d, rfl, by omega⟩
def RelK (m : Msh) (B0 B : BD) (s : Pt) (k : Int) : Prop := ∀ c0, getG B0 s = some c0 → ∀ b, Jn m k s.2 b → ∃ c, getG B (k, b) = some c ∧ c ≤ c0 + ap (md m s.1) (md m k)
theorem RelK.low {B0 B B' : BD} {s : Pt} {k : Int} (h : RelK m B0 B s k) (l : Low B B') : RelK m B0 B' s k := fun c0 e b j => by
  obtain ⟨c, e1, l1⟩ := h c0 e b j
  obtain ⟨c', e2, l2⟩ := l _ _ e1
  exact ⟨c', e2, Int.le_trans l2 l1⟩
include g in
theorem sides_t {B0 B : BD} (h : BI m v x B) (hl : Low B0 B) {s : Pt} {k : Int} (hs : s ∈ B0.map Prod.fst) (hk : Ix m k) :
    Tot (Pl.forN (fun (x49 : Int) (s45 : BD) => relax m s k x49 s45) [(1 : Int), (2 : Int)] B) fun B' => BI m v x B' ∧ Low B B' ∧ RelK m B0 B' s k := by
  obtain ⟨c0, hc0⟩ := key_getG hs
  obtain ⟨c1, hc1, l1⟩ := hl _ _ hc0
  obtain ⟨B1, r1, b1, w1, g1⟩ := relax_t g h hc1 hk (.inl rfl)
  obtain ⟨c2, hc2, l2⟩ := w1 _ _ hc1
  obtain ⟨B2, r2, b2, w2, g2⟩ := relax_t g b1 hc2 hk (.inr rfl)
  refine ⟨B2, ?_, b2, w1.trans w2, fun c0' e b j => ?_⟩
  · simp [Pl.forN, r1, r2]
  · rw [hc0] at e
    cases e
    obtain ⟨P, _, _, _, eP⟩ := at_md hk
    obtain ⟨side, hsd, es⟩ := jn_sd eP j
    rcases hsd with rfl | rfl
    · obtain ⟨c', e1, q1⟩ := g1 P eP (by rw [es])
      obtain ⟨c'', e2, q2⟩ := w2 _ _ e1
      rw [es] at e2
      exact ⟨c'', e2, by omega⟩
    · obtain ⟨c', e1, q1⟩ := g2 P eP (by rw [es])
      rw [es] at e1
      exact ⟨c', e1, by omega⟩
def sortK (B : BD) : List Pt := (B.map Prod.fst).mergeSort fun a b => decide ((fun x : (Int × Int) => [x.1, x.2]) a ≤ (fun x : (Int × Int) => [x.1, x.2]) b)
theorem sortK_mem {B : BD} {s : Pt} : s ∈ sortK B ↔ s ∈ B.map Prod.fst := List.mem_mergeSort
def rnd (m : Msh) (s20 : BD) : Option BD :=
  (if (s20.map Prod.fst).length ≤ szl then some (sortK s20) else none).bind fun t29 =>
  (Pl.forN (fun (x37 : (Int × Int)) (s30 : (List ((Int × Int) × Int))) =>
  (Pl.rngO 0 (m.2.length : Int)).bind fun t38 =>
  (Pl.forN (fun (x44 : Int) (s39 : (List ((Int × Int) × Int))) =>
  (Pl.forN (fun (x49 : Int) (s45 : (List ((Int × Int) × Int))) => relax m x37 x44 x49 s45) [(1 : Int), (2 : Int)] (s39)).bind fun (s45 : (List ((Int × Int) × Int))) =>
  some (s45)) t38 (s30)).bind fun (s39 : (List ((Int × Int) × Int))) =>
  some (s39)) t29 (s20)).bind fun (s30 : (List ((Int × Int) × Int))) =>
  some (s30)
include g in
theorem rnd_t {B0 : BD} (h0 : BI m v x B0) : Tot (rnd m B0) fun B => BI m v x B ∧ Low B0 B ∧ ∀ s k, Ix m k → RelK m B0 B s k := by
  have hlen := h0.len g
  have l2 := g.l2
  unfold rnd
  refine Tot.of (if_pos (by rw [List.length_map]; unfold szl; omega)) ?_
  refine Tot.forN (fun xs (B : BD) => (∀ s ∈ xs, s ∈ sortK B0) ∧ BI m v x B ∧ Low B0 B ∧ ∀ s ∈ sortK B0, s ∈ xs ∨ ∀ k, Ix m k → RelK m B0 B s k) ⟨fun s h => h, h0, Low.refl, fun s h => .inl h⟩ (fun s xs B ⟨a1, a2, a3, a4⟩ => ?_) fun B ⟨a1, a2, a3, a4⟩ => ⟨_, rfl, a2, a3, fun s k hk c0 e => ?_⟩
  · refine Tot.rngO ⟨by decide, by omega⟩ ?_
    refine Tot.forR (fun i (B' : BD) => BI m v x B' ∧ Low B B' ∧ ∀ k, Ix m k → k < i → RelK m B0 B' s k) (by omega) ⟨a2, Low.refl, fun k hk hl => absurd hk.1 (by omega)⟩ (fun i B' i0 i1 ⟨b1, b2, b3⟩ => ?_) fun B' ⟨b1, b2, b3⟩ => ⟨_, rfl, fun t ht => a1 t (List.mem_cons_of_mem _ ht), b1, a3.trans b2, fun t ht => ?_⟩
    · refine Tot.bind (sides_t g b1 (a3.trans b2) (sortK_mem.mp (a1 s List.mem_cons_self)) ⟨i0, i1⟩) fun B2 ⟨c1, c2, c3⟩ => ⟨_, rfl, c1, b2.trans c2, fun k hk hl => ?_⟩
      by_cases e : k = i
      · rw [e]; exact c3
      · exact (b3 k hk (by omega)).low c2
    · rcases a4 t ht with ht | ht
      · rcases List.mem_cons.mp ht with rfl | ht
        · exact .inr fun k hk => b3 k hk hk.2
        · exact .inl ht
      · exact .inr fun k hk => (ht k hk).low b2
  · rcases a4 s (sortK_mem.mpr (getG_key e)) with h | h
    · cases h
    · exact h k hk c0 e
def RI (m : Msh) (v : Int) (x : Pt) (r : Nat) (B : BD) : Prop := BI m v x B ∧ ∀ l s, Pk m v (l ++ [s]) → l.length ≤ r → ∃ c, getG B s = some c ∧ c ≤ cF m x (ks (l ++ [s]))
theorem list_snoc {α : Type} (l : List α) : l = [] ∨ ∃ u a, l = u ++ [a] := by
  rcases List.eq_nil_or_concat l with h | ⟨u, a, h⟩
  · exact .inl h
  · exact .inr ⟨u, a, by rw [h, List.concat_eq_append]⟩
include g in
theorem rounds_t {B : BD} (h : RI m v x 0 B) : Tot (Pl.forN (fun (x28 : Int) (s20 : BD) => rnd m s20) (Pl.rng 0 (2 * (m.2.length : Int))) B) fun B' => RI m v x (2 * m.2.length) B' := by
  have main := Tot.loopR (f := fun (x28 : Int) (s20 : BD) => rnd m s20) (Q := fun B' => RI m v x (2 * m.2.length) B') (fun i B => 0 ≤ i ∧ RI m v x i.toNat B) (2 * (m.2.length : Int)) (fun i B hi ⟨i0, hb, hr⟩ => ?_) (fun B h => by rw [show 2 * m.2.length = (2 * (m.2.length : Int)).toNat by omega]; exact h.2) (2 * m.2.length) 0 B (by omega) ⟨Int.le_refl _, h⟩
  · exact main
  · refine (rnd_t g hb).imp fun B' ⟨a1, a2, a3⟩ => ⟨by omega, a1, fun l s hp hl => ?_⟩
    rcases list_snoc l with rfl | ⟨u, t, rfl⟩
    · obtain ⟨c, e, q⟩ := hr [] s hp (Nat.zero_le _)
      obtain ⟨c', e', q'⟩ := a2 _ _ e
      exact ⟨c', e', Int.le_trans q' q⟩
    · rw [List.length_append, List.length_singleton] at hl
      obtain ⟨p1, p2⟩ := Pk_app.mp hp
      rw [ePl_app] at p2
      obtain ⟨c, e, q⟩ := hr u t p1 (by omega)
      have j : Jn m s.1 t.2 s.2 := p2.1
      obtain ⟨c', e', q'⟩ := a3 t s.1 j.ix c e s.2 j
      refine ⟨c', e', ?_⟩
      simp only [ks, List.map_append, List.map_cons, List.map_nil, cF_app, cF, lP_app, lP] at q ⊢
      omega
end
theorem least_t {m : Msh} (g : GM m) {a b : St3} (ha : smP a) (hb : smP b) : ∃ r, p_law_least m a b = some r ∧ (r = none → ∀ w, ¬ Wy m a.2.2 w b.2.2) ∧ ∀ c, r = some c → (∃ w, Wy m a.2.2 w b.2.2 ∧ c = tC m (dbl a) w (dbl b)) ∧ ∀ w, Wy m a.2.2 w b.2.2 → c ≤ tC m (dbl a) w (dbl b) := by
  have l2 := g.l2
  have main : Tot (p_law_least m a b) fun r => (r = none → ∀ w, ¬ Wy m a.2.2 w b.2.2) ∧ ∀ c, r = some c → (∃ w, Wy m a.2.2 w b.2.2 ∧ c = tC m (dbl a) w (dbl b)) ∧ ∀ w, Wy m a.2.2 w b.2.2 → c ≤ tC m (dbl a) w (dbl b) := by
    unfold p_law_least
    refine Tot.rngO ⟨by decide, by omega⟩ ?_
    refine Tot.forR (fun i (B : BD) => BI m a.2.2 (dbl a) B ∧ ∀ k q, k < i → Jn m k a.2.2 q → ∃ c, getG B (k, q) = some c ∧ c ≤ ap (dbl a) (md m k)) (by omega) ⟨⟨List.nodup_nil, fun s c e => nomatch e⟩, fun k q hk j => absurd j.ix.1 (by omega)⟩ (fun i B i0 i1 ⟨h1, h2⟩ => ?_) fun B ⟨h1, h2⟩ => ?_
    · obtain ⟨P, e1, e2, _, e4⟩ := at_md (m := m) (k := i) ⟨i0, i1⟩
      have step : ∀ (side : Int) (B : BD), (side = 1 ∨ side = 2) → BI m a.2.2 (dbl a) B → Tot ((Pl.at_ m.2 i).bind fun t9 =>
          (Pl.atO [none, some t9.2.1, some t9.2.2.1, some t9.2.2.2.1, some t9.2.2.2.2.1, some t9.2.2.2.2.2.1, some t9.2.2.2.2.2.2] side).bind fun t10 =>
          ((if (decide (t10 = a.2.2)) = true then
          (Pl.mul (2 : Int) a.1).bind fun t12 =>
          (Pl.mul (2 : Int) a.2.1).bind fun t13 =>
          (Pl.at_ m.2 i).bind fun t14 =>
          (Pl.at_ m.2 i).bind fun t15 =>
          (Pl.atO [none, some t15.2.1, some t15.2.2.1, some t15.2.2.2.1, some t15.2.2.2.2.1, some t15.2.2.2.2.2.1, some t15.2.2.2.2.2.2] ((3 : Int) - side)).bind fun t16 =>
          (Pl.dput B (i, t16) (p_law_apart (t12, t13) (p_law_middle t14))).bind fun v_paid17 =>
          some (v_paid17)
          else
          some (B)) : Option ((List ((Int × Int) × Int)))).bind fun j11 =>
          some (j11)) fun B' => BI m a.2.2 (dbl a) B' ∧ (∀ s c, getG B s = some c → ∃ c', getG B' s = some c' ∧ (c' = c ∨ s.1 = i ∧ c' ≤ ap (dbl a) (md m i))) ∧ ((sd P side).1 = a.2.2 → ∃ c, getG B' (i, (sd P side).2) = some c ∧ c ≤ ap (dbl a) (md m i)) := by
        intro side B hsd h
        obtain ⟨a1, a2⟩ := sd_at (P := P) hsd
        refine Tot.of e1 (Tot.of a1 ?_)
        refine Tot.bind (Ψ := fun B' => BI m a.2.2 (dbl a) B' ∧ (∀ s c, getG B s = some c → ∃ c', getG B' s = some c' ∧ (c' = c ∨ s.1 = i ∧ c' ≤ ap (dbl a) (md m i))) ∧ ((sd P side).1 = a.2.2 → ∃ c, getG B' (i, (sd P side).2) = some c ∧ c ≤ ap (dbl a) (md m i))) ?_ fun r hr => ⟨_, rfl, hr⟩
        have hlen := h.len g
        refine Tot.ite (fun hp => ?_) fun hp => ⟨_, rfl, h, fun s c e => ⟨c, e, .inl rfl⟩, fun e => ?_⟩
        · have hp := of_decide_eq_true hp
          refine dbl_t ha (Tot.of e1 (Tot.of e1 (Tot.of a2 ?_)))
          refine Tot.of (dput_t (by unfold szl; omega)) ⟨_, rfl, h.put (l := []) ?_ ?_, fun s c e => ?_, fun _ => ?_⟩
          · rw [List.nil_append]
            refine ⟨?_, trivial⟩
            rw [← hp]
            exact sd_jn i0 e4
          · rw [e2]
            simp only [ks, List.nil_append, List.map_cons, List.map_nil, cF]
            rw [Int.add_zero]
            rfl
          · rw [getG_putG]
            split
            · rename_i hs
              refine ⟨_, rfl, .inr ⟨by rw [hs], ?_⟩⟩
              rw [e2]
              exact Int.le_refl _
            · exact ⟨c, e, .inl rfl⟩
          · rw [getG_putG, if_pos rfl]
            refine ⟨_, rfl, ?_⟩
            rw [e2]
            exact Int.le_refl _
        · exact absurd (decide_eq_true e) (by rw [hp]; decide)
      obtain ⟨B1, r1, b1, m1, g1⟩ := step 1 B (.inl rfl) h1
      obtain ⟨B2, r2, b2, m2, g2⟩ := step 2 B1 (.inr rfl) b1
      refine Tot.of (r := B2) (by simp only [Pl.forN]; rw [r1]; simp only [Option.bind_some]; rw [r2]; rfl) ⟨_, rfl, b2, fun k q hk j => ?_⟩
      by_cases c : k = i
      · subst c
        obtain ⟨side, hsd, es⟩ := jn_sd e4 j
        rcases hsd with rfl | rfl
        · obtain ⟨c, q1, q2⟩ := g1 (by rw [es])
          obtain ⟨c', q3, q4⟩ := m2 _ _ q1
          rw [es] at q3
          exact ⟨c', q3, by omega⟩
        · obtain ⟨c, q1, q2⟩ := g2 (by rw [es])
          rw [es] at q1
          exact ⟨c, q1, q2⟩
      · obtain ⟨c0, q1, q2⟩ := h2 k q (by omega) j
        obtain ⟨c1, q3, q4⟩ := m1 _ _ q1
        obtain ⟨c2, q5, q6⟩ := m2 _ _ q3
        dsimp only at q4 q6
        exact ⟨c2, q5, by omega⟩
    · have i0 : RI m a.2.2 (dbl a) 0 B := ⟨h1, fun l s hp hl => by
        have : l = [] := List.length_eq_zero_iff.mp (by omega)
        subst this
        have j : Jn m s.1 a.2.2 s.2 := hp.1
        obtain ⟨c, e, q⟩ := h2 s.1 s.2 j.ix.2 j
        refine ⟨c, e, ?_⟩
        simp only [ks, List.nil_append, List.map_cons, List.map_nil, cF]
        omega⟩
      refine Tot.of (mul64 (by omega) (by omega)) ?_
      refine Tot.rngO ⟨by decide, by omega⟩ ?_
      refine Tot.bind (rounds_t g i0) fun B' ⟨hB, hR⟩ => ?_
      have all : ∀ l s, Pk m a.2.2 (l ++ [s]) → ∃ c, getG B' s = some c ∧ c ≤ cF m (dbl a) (ks (l ++ [s])) := fun l s hp => by
        obtain ⟨l', q1, q2, q3⟩ := short_w (x := dbl a) l.length l (Nat.le_refl _) hp
        have := len_le_of_sub q2 (fun t ht => q1.sts t ht)
        rw [List.length_append, List.length_singleton] at this
        have := sts_len (m := m)
        obtain ⟨c, e, q⟩ := hR l' s q1 (by omega)
        exact ⟨c, e, Int.le_trans q q3⟩
      have hlen := hB.len g
      refine Tot.of (if_pos (by rw [List.length_map]; unfold szl; omega)) ?_
      show Tot (Option.bind (Pl.comp _ _ (sortK B')) _) _
      refine Tot.of (comp_e (fun s : Pt => decide (s.2 = b.2.2)) (fun s => (getG B' s).getD 0 + ap (md m s.1) (dbl b)) (by unfold sortK; rw [List.length_mergeSort, List.length_map]; unfold szl; omega) fun s hs => ⟨rfl, fun _ => ?_⟩) ?_
      · obtain ⟨c, e⟩ := key_getG (sortK_mem.mp hs)
        obtain ⟨l, p1, _⟩ := hB.so s c e
        obtain ⟨Q, f1, f2, _⟩ := at_md (Pk_app.mp p1).2.1.ix
        unfold smP sm at hb
        rw [e, f1, Option.bind_some, Option.bind_some, mul64 (by omega) (by omega), Option.bind_some, mul64 (by omega) (by omega), Option.bind_some, f2]
        rfl
      generalize hfs : ((sortK B').filter fun s : Pt => decide (s.2 = b.2.2)).map (fun s => (getG B' s).getD 0 + ap (md m s.1) (dbl b)) = fs
      have f1 : ∀ c ∈ fs, ∃ w, Wy m a.2.2 w b.2.2 ∧ c = tC m (dbl a) w (dbl b) := fun c hc => by
        rw [← hfs] at hc
        obtain ⟨s, hs, rfl⟩ := List.mem_map.mp hc
        rw [List.mem_filter, decide_eq_true_eq] at hs
        obtain ⟨c, e⟩ := key_getG (sortK_mem.mp hs.1)
        obtain ⟨l, p1, p2⟩ := hB.so s c e
        refine ⟨ks (l ++ [s]), Wy_Pk.mpr ⟨l ++ [s], rfl, p1, by rw [ePl_app]; exact hs.2⟩, ?_⟩
        rw [e, Option.getD_some, p2]
        unfold tC
        simp only [ks, List.map_append, List.map_cons, List.map_nil, lP_app, lP]
      have f2 : ∀ w, w ≠ [] → Wy m a.2.2 w b.2.2 → ∃ c ∈ fs, c ≤ tC m (dbl a) w (dbl b) := fun w hw hy => by
        obtain ⟨l, e1, e2, e3⟩ := Wy_Pk.mp hy
        rcases list_snoc l with rfl | ⟨u, s, rfl⟩
        · exact absurd e1.symm hw
        · obtain ⟨c, e, q⟩ := all u s e2
          refine ⟨(getG B' s).getD 0 + ap (md m s.1) (dbl b), ?_, ?_⟩
          · rw [← hfs]
            refine List.mem_map.mpr ⟨s, List.mem_filter.mpr ⟨sortK_mem.mpr (getG_key e), decide_eq_true ?_⟩, rfl⟩
            rw [ePl_app] at e3
            exact e3
          · rw [e, Option.getD_some, ← e1]
            unfold tC
            simp only [ks, List.map_append, List.map_cons, List.map_nil, lP_app, lP] at q ⊢
            omega
      have fl : fs.length ≤ 28 := by
        rw [← hfs, List.length_map]
        refine Nat.le_trans (List.length_filter_le _ _) ?_
        unfold sortK
        rw [List.length_mergeSort, List.length_map]
        exact hlen
      refine Tot.bind (Ψ := fun j : List Int => (∀ c ∈ j, ∃ w, Wy m a.2.2 w b.2.2 ∧ c = tC m (dbl a) w (dbl b)) ∧ ∀ w, Wy m a.2.2 w b.2.2 → ∃ c ∈ j, c ≤ tC m (dbl a) w (dbl b)) ?_ fun j ⟨j1, j2⟩ => ?_
      · refine Tot.ite (fun hp => ?_) fun hp => ?_
        · have hp := of_decide_eq_true hp
          refine dbl_t ha (dbl_t hb ?_)
          refine Tot.of (app_t (by unfold szl; omega)) ⟨_, rfl, fun c hc => ?_, fun w hy => ?_⟩
          · rcases List.mem_append.mp hc with hc | hc
            · exact f1 c hc
            · rw [List.mem_singleton.mp hc]
              refine ⟨[], hp, ?_⟩
              unfold tC
              rw [cF, lP, Int.zero_add]
              rfl
          · by_cases hw : w = []
            · subst hw
              refine ⟨_, List.mem_append_right _ (List.mem_singleton.mpr rfl), ?_⟩
              unfold tC
              rw [cF, lP, Int.zero_add]
              exact Int.le_refl _
            · obtain ⟨c, h3, h4⟩ := f2 w hw hy
              exact ⟨c, List.mem_append_left _ h3, h4⟩
        · have hp := of_decide_eq_false hp
          refine ⟨_, rfl, f1, fun w hy => ?_⟩
          by_cases hw : w = []
          · subst hw
            exact absurd hy hp
          · exact f2 w hw hy
      · refine Tot.ite (fun hp => ?_) fun hp => ?_
        · have hp : j = [] := by
            have := of_decide_eq_true hp
            exact List.length_eq_zero_iff.mp (by omega)
          subst hp
          refine ⟨_, rfl, fun _ w hy => ?_, fun c e => nomatch e⟩
          obtain ⟨c, h3, _⟩ := j2 w hy
          cases h3
        · have hp : j ≠ [] := fun e => by
            subst e
            exact absurd hp (by decide)
          obtain ⟨mn, e1, e2, e3⟩ := minL_spec hp
          refine Tot.of e1 ⟨_, rfl, (fun e => nomatch e), fun c e => ?_⟩
          cases e
          refine ⟨j1 _ e2, fun w hy => ?_⟩
          obtain ⟨c, h3, h4⟩ := j2 w hy
          exact Int.le_trans (e3 c h3) h4
  exact main
end W
set_option Elab.async false
set_option linter.all false
set_option maxRecDepth 100000
set_option maxHeartbeats 1000000
namespace W
open PySem L2 Mi
theorem llApp_t {α : Type} {xss : List (List α)} {i : Int} {v : α} {xs : List α} (h0 : 0 ≤ i) (h : xss[i.toNat]? = some xs) (hl : xs.length < szl) : Pl.llApp xss i v = some (xss.set i.toNat (xs ++ [v])) := by
  have hlt := (List.getElem?_eq_some_iff.mp h).1
  have e : ixN xss.length i = some i.toNat := by
    unfold ixN
    rw [if_pos h0, if_pos (by omega)]
  unfold Pl.llApp
  rw [e]
  dsimp only
  rw [h]
  dsimp only
  rw [if_pos hl]
section
variable {m : Msh} (g : GM m)
/-- the neighbours by the portals in R -/
def NbR (m : Msh) (R : Int → Int → Int → Prop) (B : Nat) (nb : List (List (Int × Int))) : Prop := nb.length = m.1.length ∧ ∀ (v : Nat) (l : List (Int × Int)), nb[v]? = some l → l.length ≤ B ∧ ∀ x, x ∈ l ↔ R x.1 v x.2
theorem NbR.app {R : Int → Int → Int → Prop} {B : Nat} {nb : List (List (Int × Int))} (h : NbR m R B nb) (hB : B ≤ 400000) {v k q : Int} (hv : 0 ≤ v ∧ v < m.1.length) : Tot (Pl.llApp nb v (k, q)) fun nb' => NbR m (fun a b c => R a b c ∨ (a = k ∧ b = v ∧ c = q)) (B + 1) nb' := by
  obtain ⟨h1, h2⟩ := h
  have hlt : v.toNat < nb.length := by omega
  have ex := List.getElem?_eq_getElem hlt
  obtain ⟨a1, a2⟩ := h2 _ _ ex
  refine ⟨_, llApp_t hv.1 ex (by unfold szl; omega), by rw [List.length_set]; exact h1, fun w l e2 => ?_⟩
  by_cases c : v.toNat = w
  · subst c
    rw [List.getElem?_set_self hlt] at e2
    cases e2
    refine ⟨by rw [List.length_append, List.length_singleton]; omega, fun x => ?_⟩
    rw [List.mem_append, a2 x, List.mem_singleton]
    have e : ((v.toNat : Nat) : Int) = v := by omega
    rw [e]
    constructor
    · rintro (h | rfl)
      · exact .inl h
      · exact .inr ⟨rfl, rfl, rfl⟩
    · rintro (h | ⟨h, _, h3⟩)
      · exact .inl h
      · exact .inr (Prod.ext h h3)
  · rw [List.getElem?_set_ne c] at e2
    obtain ⟨b1, b2⟩ := h2 _ _ e2
    refine ⟨by omega, fun x => (b2 x).trans ⟨.inl, fun h => h.resolve_right fun h => c ?_⟩⟩
    omega
include g in
theorem nbs_t : Tot (p_neighbours m) fun nb => NbR m (Jn m) 28 nb := by
  have l2 := g.l2
  have l1 := g.l1
  unfold p_neighbours
  refine Tot.of (r := List.replicate m.1.length []) ?_ ?_
  · unfold Pl.llNew
    rw [if_pos (by unfold szl; omega)]
  refine Tot.rngO ⟨by decide, by omega⟩ ?_
  refine Tot.forR (fun i nb => NbR m (fun a b c => a < i ∧ Jn m a b c) (2 * i.toNat) nb) (by omega) ⟨List.length_replicate, fun v l e => ?_⟩ (fun i nb i0 i1 h => ?_) fun nb h => ⟨_, rfl, h.1, fun v l e => ?_⟩
  · rw [List.getElem?_replicate] at e
    split at e
    · cases e
      refine ⟨Nat.zero_le _, fun x => ⟨fun h => (nomatch h), fun h => absurd h.2.ix.1 (by omega)⟩⟩
    · cases e
  · obtain ⟨P, e1, _, e3, e4⟩ := at_md (m := m) (k := i) ⟨i0, i1⟩
    have ok := g.ok P e3
    refine Tot.of e1 ?_
    refine Tot.bind (h.app (by omega) ok.a) fun nb1 h1 => ?_
    refine Tot.bind (h1.app (by omega) ok.b) fun nb2 h2 => ⟨_, rfl, h2.1, fun v l e => ?_⟩
    obtain ⟨q1, q2⟩ := h2.2 v l e
    refine ⟨by omega, fun x => (q2 x).trans ⟨?_, ?_⟩⟩
    · rintro ((⟨h1, h2⟩ | ⟨h1, h2, h3⟩) | ⟨h1, h2, h3⟩)
      · exact ⟨by omega, h2⟩
      · refine ⟨by omega, ?_⟩
        rw [h1, h2, h3]
        exact ⟨P, i0, e4, .inl ⟨rfl, rfl⟩⟩
      · refine ⟨by omega, ?_⟩
        rw [h1, h2, h3]
        exact ⟨P, i0, e4, .inr ⟨rfl, rfl⟩⟩
    · rintro ⟨h1, h2⟩
      by_cases c : x.1 = i
      · obtain ⟨P', _, f1, f2⟩ := h2
        rw [c, e4] at f1
        cases f1
        rcases f2 with ⟨f2, f3⟩ | ⟨f2, f3⟩
        · exact .inl (.inr ⟨c, f2.symm, f3.symm⟩)
        · exact .inr ⟨c, f2.symm, f3.symm⟩
      · exact .inl (.inl ⟨by omega, h2⟩)
  · obtain ⟨q1, q2⟩ := h.2 v l e
    exact ⟨by omega, fun x => (q2 x).trans ⟨fun h => h.2, fun h => ⟨h.ix.2, h⟩⟩⟩
end
abbrev E4 := Int × (List Int) × Int × Pt
theorem open_t {W : List E4} (h : W ≠ []) (hl : W.length ≤ 100000) : Tot (p_next_open W) fun i => ∃ e, 0 ≤ i ∧ i < W.length ∧ W[i.toNat]? = some e ∧ ∀ f ∈ W, e.1 ≤ f.1 := by
  have hp : 0 < W.length := List.length_pos_iff.mpr h
  unfold p_next_open
  refine Tot.rngO ⟨by decide, by omega⟩ ?_
  refine Tot.forR (fun i (l : Int) => ∃ e, 0 ≤ l ∧ l < W.length ∧ W[l.toNat]? = some e ∧ ∀ (j : Nat) f, W[j]? = some f → (j : Int) < i → e.1 ≤ f.1) (by omega) ?_ (fun i l i0 i1 ⟨e, a1, a2, a3, a4⟩ => ?_) fun l ⟨e, a1, a2, a3, a4⟩ => ⟨_, rfl, e, a1, a2, a3, fun f hf => ?_⟩
  · exact ⟨W[0], Int.le_refl _, by omega, List.getElem?_eq_getElem hp, fun j f _ h => absurd h (by omega)⟩
  · obtain ⟨x, e1, e2⟩ := at_in (xs := W) i0 i1
    refine Tot.of e2 (Tot.of (at_t (n := l.toNat) (by omega) a3) ?_)
    refine Tot.bind (Ψ := fun l : Int => ∃ e, 0 ≤ l ∧ l < W.length ∧ W[l.toNat]? = some e ∧ ∀ (j : Nat) f, W[j]? = some f → (j : Int) < i + 1 → e.1 ≤ f.1) ?_ fun r hr => ⟨_, rfl, hr⟩
    refine Tot.ite (fun hp => ?_) fun hp => ?_
    · have hp := of_decide_eq_true hp
      refine ⟨_, rfl, x, i0, i1, e1, fun j f hj hl => ?_⟩
      by_cases c : (j : Int) = i
      · rw [show i.toNat = j by omega, hj] at e1
        cases e1
        exact Int.le_refl _
      · have := a4 j f hj (by omega)
        omega
    · have hp := of_decide_eq_false hp
      refine ⟨_, rfl, e, a1, a2, a3, fun j f hj hl => ?_⟩
      by_cases c : (j : Int) = i
      · rw [show i.toNat = j by omega, hj] at e1
        cases e1
        omega
      · exact a4 j f hj (by omega)
  · obtain ⟨j, hj, rfl⟩ := List.getElem_of_mem hf
    exact a4 j _ (List.getElem?_eq_getElem hj) (by omega)
theorem pop_at {W : List E4} {i : Int} {e : E4} (h0 : 0 ≤ i) (h1 : i < W.length) (hl : W.length ≤ 100000) (h : W[i.toNat]? = some e) : Pl.popAt W i = some (e, W.eraseIdx i.toNat) := by
  unfold Pl.popAt
  have e1 : ixN W.length i = some i.toNat := by
    unfold ixN
    rw [if_pos h0, if_pos (by omega)]
  rw [if_pos (by omega), e1]
  show (W[i.toNat]?).bind _ = _
  rw [h]
  rfl
theorem erase_mem {W : List E4} {n : Nat} {e : E4} (h : W[n]? = some e) : (∀ f ∈ W, f = e ∨ f ∈ W.eraseIdx n) ∧ (∀ f ∈ W.eraseIdx n, f ∈ W) ∧ (W.eraseIdx n).length + 1 = W.length := by
  have hlt := (List.getElem?_eq_some_iff.mp h).1
  refine ⟨fun f hf => ?_, fun f hf => List.mem_of_mem_eraseIdx hf, by rw [List.length_eraseIdx_of_lt hlt]; omega⟩
  obtain ⟨j, hj, rfl⟩ := List.getElem_of_mem hf
  by_cases c : j = n
  · subst c
    rw [List.getElem?_eq_getElem hlt] at h
    exact .inl (Option.some.inj h)
  · exact .inr (List.mem_eraseIdx_iff_getElem?.mpr ⟨j, c, List.getElem?_eq_getElem hj⟩)
theorem cut_last {w : List Int} {k : Int} : decide (N.cutL w (some (-(1 : Int))) none = [k]) = decide (w.getLast? = some k) := by
  rcases list_snoc w with rfl | ⟨u, a, rfl⟩
  · rfl
  · have e : N.cutL (u ++ [a]) (some (-(1 : Int))) none = [a] := by
      have h0 : HT.sIx (u ++ [a]).length 0 (some (-1)) = u.length := by
        show (if (-1 : Int) < 0 then (-1 + ((u ++ [a]).length : Int)).toNat else min (-1 : Int).toNat (u ++ [a]).length) = _
        rw [if_pos (by decide), List.length_append, List.length_singleton]
        omega
      unfold N.cutL
      rw [h0]
      show List.take ((u ++ [a]).length - u.length) _ = _
      simp
    rw [e]
    simp
abbrev ky (e : E4) : Int × Pt := (e.2.2.1, e.2.2.2)
def NR (w : List Int) : Prop := ∀ (i : Nat) a b, w[i]? = some a → w[i + 1]? = some b → a ≠ b
theorem NR.snoc {w : List Int} {k : Int} (h : NR w) (hk : w.getLast? ≠ some k) : NR (w ++ [k]) := fun i a b h1 h2 => by
  by_cases c : i + 1 < w.length
  · rw [List.getElem?_append_left (by omega)] at h1 h2
    exact h i a b h1 h2
  · have hlen := (List.getElem?_eq_some_iff.mp h2).1
    rw [List.length_append, List.length_singleton] at hlen
    have hi : i + 1 = w.length := by omega
    rw [List.getElem?_append_right (by omega), show i + 1 - w.length = 0 by omega] at h2
    cases h2
    rw [List.getElem?_append_left (by omega)] at h1
    rw [List.getLast?_eq_getElem?, show w.length - 1 = i by omega, h1] at hk
    exact fun e => hk (by rw [e])
structure Vd (m : Msh) (v : Int) (x : Pt) (e : E4) : Prop where
  w : Wy m v e.2.1 e.2.2.1
  c : e.1 = cF m x e.2.1
  p : e.2.2.2 = lP m x e.2.1
  nr : NR e.2.1
def Ch (m : Msh) (e : E4) (k b : Int) (f : E4) : Prop := f.2.1 = e.2.1 ++ [k] ∧ Jn m k e.2.2.1 b ∧ f.2.2.1 = b ∧ f.2.2.2 = md m k ∧ f.1 = e.1 + ap e.2.2.2 (md m k)
def Pa (m : Msh) (v : Int) (x : Pt) (S : List E4) (e : E4) : Prop := (e.2.1 = [] ∧ e.2.2.1 = v ∧ e.2.2.2 = x ∧ e.1 = 0) ∨ ∃ f ∈ S, ∃ k, Ch m f k e.2.2.1 e
def Cov (S W : List E4) (b : Int) (y : Pt) (c : Int) : Prop := ∃ f, (f ∈ S ∨ f ∈ W) ∧ f.2.2.1 = b ∧ f.2.2.2 = y ∧ f.1 ≤ c
structure J (m : Msh) (v : Int) (x : Pt) (S W : List E4) : Prop where
  vd : ∀ e, e ∈ S ∨ e ∈ W → Vd m v x e
  pa : ∀ e, e ∈ S ∨ e ∈ W → Pa m v x S e
  cov : ∀ e ∈ S, ∀ k b, Jn m k e.2.2.1 b → e.2.1.getLast? ≠ some k → Cov S W b (md m k) (e.1 + ap e.2.2.2 (md m k))
  ord : ∀ e ∈ S, ∀ f ∈ W, e.1 ≤ f.1
  st : Cov S W v x 0
  nd : (S.map ky).Nodup
  ln : ∀ e, e ∈ S ∨ e ∈ W → e.2.1.length ≤ S.length
section
variable {m : Msh} (g : GM m) {v : Int} {x : Pt} {S W : List E4}
theorem Pa.mono {S' : List E4} (hs : ∀ e ∈ S, e ∈ S') {e : E4} (h : Pa m v x S e) : Pa m v x S' e := by
  rcases h with h | ⟨f, hf, k, h⟩
  · exact .inl h
  · exact .inr ⟨f, hs f hf, k, h⟩
def kst (m : Msh) (v : Int) (x : Pt) : List (Int × Pt) := (v, x) :: (sts m).map fun s => (s.2, md m s.1)
include g in
theorem J.len (h : J m v x S W) : S.length ≤ 29 := by
  have := len_le_of_sub (ys := kst m v x) h.nd fun k hk => by
    obtain ⟨e, he, rfl⟩ := List.mem_map.mp hk
    rcases h.pa e (.inl he) with ⟨_, h2, h3, _⟩ | ⟨f, hf, k, _, h2, h3, h4, _⟩
    · unfold kst ky
      rw [h2, h3]
      exact List.mem_cons_self
    · unfold kst ky
      rw [h4]
      exact List.mem_cons_of_mem _ (List.mem_map.mpr ⟨(k, e.2.2.1), h2.sts, rfl⟩)
  rw [List.length_map] at this
  unfold kst at this
  rw [List.length_cons, List.length_map] at this
  have := sts_len (m := m)
  have := g.l2
  omega
/-- an entry for what is settled is dropped -/
theorem J.skip {W' : List E4} {e : E4} (h : J m v x S W) (he : e ∈ W) (h1 : ∀ f ∈ W, f = e ∨ f ∈ W') (h2 : ∀ f ∈ W', f ∈ W) (hd : ky e ∈ S.map ky) : J m v x S W' := by
  obtain ⟨d, hd1, hd2⟩ := List.mem_map.mp hd
  have hd3 : d.2.2.1 = e.2.2.1 ∧ d.2.2.2 = e.2.2.2 := ⟨congrArg Prod.fst hd2, congrArg Prod.snd hd2⟩
  have sub : ∀ f, f ∈ S ∨ f ∈ W' → f ∈ S ∨ f ∈ W := fun f hf => hf.imp id (h2 f)
  have cv : ∀ {b y c}, Cov S W b y c → Cov S W' b y c := fun {b y c} ⟨f, hf, q1, q2, q3⟩ => by
    rcases hf with hf | hf
    · exact ⟨f, .inl hf, q1, q2, q3⟩
    · rcases h1 f hf with rfl | hf
      · have := h.ord d hd1 f he
        exact ⟨d, .inl hd1, hd3.1.trans q1, hd3.2.trans q2, by omega⟩
      · exact ⟨f, .inr hf, q1, q2, q3⟩
  exact ⟨fun f hf => h.vd f (sub f hf), fun f hf => h.pa f (sub f hf), fun e he k b j l => cv (h.cov e he k b j l), fun a ha f hf => h.ord a ha f (h2 f hf), cv h.st, h.nd, fun f hf => h.ln f (sub f hf)⟩
/-- an entry is settled -/
theorem J.take {W1 W' : List E4} {e : E4} (h : J m v x S W) (he : e ∈ W) (hm : ∀ f ∈ W, e.1 ≤ f.1) (h1 : ∀ f ∈ W, f = e ∨ f ∈ W1) (h2 : ∀ f ∈ W1, f ∈ W) (hd : ky e ∉ S.map ky)
    (w1 : ∀ f ∈ W1, f ∈ W') (w2 : ∀ f ∈ W', f ∈ W1 ∨ ∃ k b, Ch m e k b f ∧ e.2.1.getLast? ≠ some k) (w3 : ∀ k b, Jn m k e.2.2.1 b → e.2.1.getLast? ≠ some k → Cov (S ++ [e]) W' b (md m k) (e.1 + ap e.2.2.2 (md m k))) : J m v x (S ++ [e]) W' := by
  have hl : ∀ f, f ∈ S ++ [e] ↔ f ∈ S ∨ f = e := fun f => by rw [List.mem_append, List.mem_singleton]
  have cv : ∀ {b y c}, Cov S W b y c → Cov (S ++ [e]) W' b y c := fun {b y c} ⟨f, hf, q⟩ => by
    rcases hf with hf | hf
    · exact ⟨f, .inl ((hl f).mpr (.inl hf)), q⟩
    · rcases h1 f hf with rfl | hf
      · exact ⟨f, .inl ((hl f).mpr (.inr rfl)), q⟩
      · exact ⟨f, .inr (w1 f hf), q⟩
  have old : ∀ f, f ∈ S ++ [e] → f ∈ S ∨ f ∈ W := fun f hf => ((hl f).mp hf).imp id fun q => by rw [q]; exact he
  have ve := h.vd e (.inr he)
  have chd : ∀ {k b f}, Ch m e k b f → e.2.1.getLast? ≠ some k → Vd m v x f := fun {k b f} ⟨c1, c2, c3, c4, c5⟩ hk => by
    refine ⟨by rw [c1, c3]; exact ve.w.snoc c2, ?_, ?_, by rw [c1]; exact ve.nr.snoc hk⟩
    · rw [c1, c5, cF_app, ← ve.c, ← ve.p, cF, cF]
      omega
    · rw [c1, c4, lP_app]
      rfl
  refine ⟨fun f hf => ?_, fun f hf => ?_, fun a ha k b j l => ?_, fun a ha f hf => ?_, cv h.st, ?_, fun f hf => ?_⟩
  · rcases hf with hf | hf
    · exact h.vd f (old f hf)
    · rcases w2 f hf with hf | ⟨k, b, c, l⟩
      · exact h.vd f (.inr (h2 f hf))
      · exact chd c l
  · have mono : ∀ f ∈ S, f ∈ S ++ [e] := fun f hf => (hl f).mpr (.inl hf)
    rcases hf with hf | hf
    · exact (h.pa f (old f hf)).mono mono
    · rcases w2 f hf with hf | ⟨k, b, c, l⟩
      · exact (h.pa f (.inr (h2 f hf))).mono mono
      · refine .inr ⟨e, (hl e).mpr (.inr rfl), k, ?_⟩
        rw [c.2.2.1]
        exact c
  · rcases (hl a).mp ha with ha | rfl
    · exact cv (h.cov a ha k b j l)
    · exact w3 k b j l
  · have hae : a.1 ≤ e.1 := by
      rcases (hl a).mp ha with ha | rfl
      · exact h.ord a ha e he
      · exact Int.le_refl _
    rcases w2 f hf with hf | ⟨k, b, c, l⟩
    · have := hm f (h2 f hf)
      omega
    · have := c.2.2.2.2
      have := ap_nn e.2.2.2 (md m k)
      omega
  · rw [List.map_append, List.nodup_append]
    refine ⟨h.nd, by simp, fun a ha b hb q => ?_⟩
    simp only [List.map_cons, List.map_nil, List.mem_singleton] at hb
    rw [q, hb] at ha
    exact hd ha
  · rw [List.length_append, List.length_singleton]
    rcases hf with hf | hf
    · have := h.ln f (old f hf)
      omega
    · rcases w2 f hf with hf | ⟨k, b, c, l⟩
      · have := h.ln f (.inr (h2 f hf))
        omega
      · rw [c.1, List.length_append, List.length_singleton]
        have := h.ln e (.inr he)
        omega
include g in
/-- no way is cheaper than what is settled, or waits -/
theorem J.dom (h : J m v x S W) {w : List Int} {b : Int} (hw : Wy m v w b) : (∃ f ∈ W, f.1 ≤ cF m x w) ∨ ∃ e ∈ S, e.2.2.1 = b ∧ e.1 + ap e.2.2.2 (lP m x w) ≤ cF m x w := by
  suffices H : ∀ (n : Nat) (w : List Int), w.length = n → ∀ b, Wy m v w b → (∃ f ∈ W, f.1 ≤ cF m x w) ∨ ∃ e ∈ S, e.2.2.1 = b ∧ e.1 + ap e.2.2.2 (lP m x w) ≤ cF m x w from H _ w rfl b hw
  intro n
  induction n with
  | zero =>
    intro w hl b hw
    have : w = [] := List.length_eq_zero_iff.mp hl
    subst this
    have hb : v = b := hw
    subst hb
    obtain ⟨f, hf, q1, q2, q3⟩ := h.st
    rcases hf with hf | hf
    · refine .inr ⟨f, hf, q1, ?_⟩
      rw [q2, lP, cF, ap_self]
      omega
    · exact .inl ⟨f, hf, by rw [cF]; exact q3⟩
  | succ n ih =>
    intro w hl b hw
    rcases list_snoc w with rfl | ⟨u, k, rfl⟩
    · cases hl
    · obtain ⟨a, hu, j⟩ := hw.unsnoc
      have e1 : cF m x (u ++ [k]) = cF m x u + ap (lP m x u) (md m k) := by rw [cF_app, cF, cF]; omega
      have e2 : lP m x (u ++ [k]) = md m k := by rw [lP_app]; rfl
      rw [e1, e2]
      have nn := ap_nn (lP m x u) (md m k)
      rcases ih u (by rw [List.length_append, List.length_singleton] at hl; omega) a hu with ⟨f, hf, q⟩ | ⟨e, he, q1, q2⟩
      · exact .inl ⟨f, hf, by omega⟩
      · subst q1
        have tri := ap_tri e.2.2.2 (lP m x u) (md m k)
        have nn2 := ap_nn e.2.2.2 (lP m x u)
        by_cases c : e.2.1.getLast? = some k
        · rcases h.pa e (.inl he) with ⟨p1, _⟩ | ⟨f, hf, k', c1, c2, c3, c4, c5⟩
          · rw [p1] at c
            cases c
          · rw [c1] at c
            simp at c
            subst c
            refine .inr ⟨f, hf, c2.sym.uq g j, ?_⟩
            omega
        · obtain ⟨f, hf, q3, q4, q5⟩ := h.cov e he k b j c
          rcases hf with hf | hf
          · refine .inr ⟨f, hf, q3, ?_⟩
            rw [q4, ap_self]
            omega
          · exact .inl ⟨f, hf, by omega⟩
end
/-- the best way so far -/
def BestI (S : List E4) (b : Int) (y : Pt) (best : Option (Int × List Int)) : Prop := (best = none → ∀ e ∈ S, e.2.2.1 ≠ b) ∧ ∀ c w, best = some (c, w) → (∃ e ∈ S, e.2.2.1 = b ∧ c = e.1 + ap e.2.2.2 y ∧ w = e.2.1) ∧ ∀ e ∈ S, e.2.2.1 = b → c ≤ e.1 + ap e.2.2.2 y
def bet (best : Option (Int × List Int)) (n : Int) : Bool := match best with
  | none => true
  | some p => decide (n < p.1)
/-- what is told at the end -/
def Fin4 (m : Msh) (a b : St3) (r : Option (Int × List Int)) : Prop := (r = none → ∀ w, ¬ Wy m a.2.2 w b.2.2) ∧ ∀ c w, r = some (c, w) → (Wy m a.2.2 w b.2.2 ∧ c = tC m (dbl a) w (dbl b) ∧ NR w ∧ w.length ≤ 29) ∧ ∀ w', Wy m a.2.2 w' b.2.2 → c ≤ tC m (dbl a) w' (dbl b)
theorem fin_t {m : Msh} (g : GM m) {a b : St3} {S W : List E4} {best : Option (Int × List Int)} (h : J m a.2.2 (dbl a) S W) (hb : BestI S b.2.2 (dbl b) best) (hW : ∀ f ∈ W, ∃ c w, best = some (c, w) ∧ c ≤ f.1) : Fin4 m a b best := by
  refine ⟨fun e w hw => ?_, fun c w e => ⟨?_, fun w' hw => ?_⟩⟩
  · rcases h.dom g hw with ⟨f, hf, _⟩ | ⟨f, hf, q, _⟩
    · obtain ⟨c, w, q, _⟩ := hW f hf
      rw [e] at q
      cases q
    · exact hb.1 e f hf q
  · obtain ⟨f, hf, q1, q2, q3⟩ := (hb.2 c w e).1
    have vf := h.vd f (.inl hf)
    have l := h.ln f (.inl hf)
    have l2 := h.len g
    subst q3
    exact ⟨q1 ▸ vf.w, by rw [q2, vf.c, vf.p]; rfl, vf.nr, by omega⟩
  · unfold tC
    rcases h.dom g hw with ⟨f, hf, q⟩ | ⟨f, hf, q1, q2⟩
    · obtain ⟨c2, w2, q3, q4⟩ := hW f hf
      rw [e] at q3
      cases q3
      have := ap_nn (lP m (dbl a) w') (dbl b)
      omega
    · have := (hb.2 c w e).2 f hf q1
      have := ap_tri f.2.2.2 (lP m (dbl a) w') (dbl b)
      omega
theorem cheap_t {m : Msh} (g : GM m) {a b : St3} (ha : smP a) (hb : smP b) (hv : 0 ≤ a.2.2 ∧ a.2.2 < m.1.length) : ∃ r, p_cheapest m a b = some r ∧ Fin4 m a b r := by
  have main : Tot (p_cheapest m a b) fun r => Fin4 m a b r := by
    unfold p_cheapest
    refine Tot.bind (nbs_t g) fun nb hnb => ?_
    refine dbl_t ha (Tot.nm (dbl_t hb (Tot.nm ?_)))
    refine Tot.wh (fun n (st : List (Int × Pt) × List E4 × Option (Int × List Int)) => ∃ S, st.1 = S.map ky ∧ J m a.2.2 (dbl a) S st.2.1 ∧ BestI S b.2.2 (dbl b) st.2.2 ∧ st.2.1.length ≤ 1 + 28 * S.length ∧ (30 - S.length) * 40 + st.2.1.length = n) (fun st => Fin4 m a b st.2.2) (fun r => Fin4 m a b r) (30 * 40 + 1) ⟨[], rfl, ?_, ⟨(fun _ e h => nomatch h), fun c w e => nomatch e⟩, Nat.le_refl _, rfl⟩ ?_ (fun st h => ⟨_, rfl, h⟩) fun r h => ⟨_, rfl, h⟩
    · refine ⟨fun e h => ?_, fun e h => ?_, (fun e h => nomatch h), (fun e h => nomatch h), ⟨_, .inr (List.mem_singleton.mpr rfl), rfl, rfl, Int.le_refl _⟩, List.nodup_nil, fun e h => ?_⟩
      all_goals (rcases h with h | h; · cases h)
      all_goals rw [List.mem_singleton.mp h]
      · exact ⟨rfl, rfl, rfl, fun i a b h => by simp at h⟩
      · exact .inl ⟨rfl, rfl, rfl, rfl⟩
      · exact Nat.le_refl _
    · rintro n ⟨D, W, best⟩ ⟨S, hD, hJ, hbest, hWl, hn⟩
      dsimp only at hD hJ hbest hWl hn ⊢
      have hSl := hJ.len g
      refine ⟨_, rfl, fun he => ?_, fun he => ?_⟩
      · have : W = [] := by simpa using he
        subst this
        exact fin_t g hJ hbest fun f h => nomatch h
      · have hW : W ≠ [] := by
          rintro rfl
          cases he
        refine Tot.bind (open_t hW (by omega)) fun i ⟨e, i0, i1, ei, hmin⟩ => ?_
        refine Tot.of (pop_at i0 i1 (by omega) ei) ?_
        obtain ⟨m1, m2, m3⟩ := erase_mem ei
        have he : e ∈ W := List.mem_of_getElem? ei
        generalize W.eraseIdx i.toNat = W1 at m1 m2 m3 ⊢
        dsimp only
        have stop : ∀ t, Pl.andO best.isSome (best.bind fun t19 => some (decide (t19.1 ≤ e.1))) = some t → (t = true → Fin4 m a b best) := fun t ht hp => by
          cases best with
          | none => cases ht; cases hp
          | some p =>
            have : t = decide (p.1 ≤ e.1) := by
              have ht : some (decide (p.1 ≤ e.1)) = some t := ht
              exact (Option.some.inj ht).symm
            rw [this, decide_eq_true_eq] at hp
            exact fin_t g hJ hbest fun f hf => ⟨p.1, p.2, rfl, Int.le_trans hp (hmin f hf)⟩
        obtain ⟨t, ht⟩ : ∃ t, Pl.andO best.isSome (best.bind fun t19 => some (decide (t19.1 ≤ e.1))) = some t := by
          cases best <;> exact ⟨_, rfl⟩
        refine Tot.of ht ?_
        refine Tot.ite (fun hp => ⟨_, rfl, stop t ht hp⟩) fun _ => ?_
        have hmem : (D.any fun j => decide (j = (e.2.2.1, e.2.2.2))) = true ↔ ky e ∈ S.map ky := by
          rw [List.any_eq_true, ← hD]
          constructor
          · rintro ⟨k, hk, q⟩
            rw [decide_eq_true_eq] at q
            rw [show ky e = k from q.symm]
            exact hk
          · exact fun h => ⟨_, h, decide_eq_true rfl⟩
        refine Tot.ite (fun hp => ?_) fun hp => ?_
        · exact ⟨_, rfl, (30 - S.length) * 40 + W1.length, by omega, S, hD, hJ.skip he m1 m2 (hmem.mp hp), hbest, by dsimp only; omega, rfl⟩
        · have hd : ky e ∉ S.map ky := fun h => by rw [hmem.mpr h] at hp; cases hp
          have hput : Pl.nput D (e.2.2.1, e.2.2.2) = some ((S ++ [e]).map ky) := by
            unfold Pl.nput
            have hDl : D.length = S.length := by rw [hD, List.length_map]
            rw [if_pos (by unfold szl; omega), if_neg (by rw [hp]; decide), hD, List.map_append]
            rfl
          refine Tot.of hput ?_
          refine Tot.bind (Ψ := fun t : Bool => t = (decide (e.2.2.1 = b.2.2) && bet best (e.1 + ap e.2.2.2 (dbl b)))) ?_ fun t ht => ?_
          · cases best with
            | none => refine ⟨_, ?_, rfl⟩; cases decide (e.2.2.1 = b.2.2) <;> rfl
            | some p => refine ⟨_, ?_, rfl⟩; cases decide (e.2.2.1 = b.2.2) <;> rfl
          refine Tot.bind (Ψ := fun best' => BestI (S ++ [e]) b.2.2 (dbl b) best') ?_ fun best' hb' => ?_
          · have hl : ∀ f, f ∈ S ++ [e] ↔ f ∈ S ∨ f = e := fun f => by rw [List.mem_append, List.mem_singleton]
            refine Tot.ite (fun hp => ⟨_, rfl, (fun q => nomatch q), fun c w q => ?_⟩) fun hp => ⟨_, rfl, fun q f hf => ?_, fun c w q => ?_⟩
            · rw [ht, Bool.and_eq_true, decide_eq_true_eq] at hp
              have q : some (e.1 + ap e.2.2.2 (dbl b), e.2.1) = some (c, w) := q
              cases q
              refine ⟨⟨e, (hl e).mpr (.inr rfl), hp.1, rfl, rfl⟩, fun f hf hfb => ?_⟩
              rcases (hl f).mp hf with hf | rfl
              · have hp2 := hp.2
                cases best with
                | none => exact absurd hfb (hbest.1 rfl f hf)
                | some p =>
                  have hp2 := of_decide_eq_true hp2
                  have := (hbest.2 p.1 p.2 rfl).2 f hf hfb
                  omega
              · exact Int.le_refl _
            · rw [ht] at hp
              rw [q] at hp
              rcases (hl f).mp hf with hf | rfl
              · exact hbest.1 q f hf
              · intro c
                rw [decide_eq_true c] at hp
                cases hp
            · rw [ht] at hp
              rw [q] at hp
              obtain ⟨⟨f, hf, q1⟩, q2⟩ := hbest.2 c w q
              refine ⟨⟨f, (hl f).mpr (.inl hf), q1⟩, fun f hf hfb => ?_⟩
              rcases (hl f).mp hf with hf | rfl
              · exact q2 f hf hfb
              · rw [decide_eq_true hfb, Bool.true_and] at hp
                have hp : decide (f.1 + ap f.2.2.2 (dbl b) < c) = false := hp
                rw [decide_eq_false_iff_not] at hp
                omega
          have ve := hJ.vd e (.inr he)
          have ple : 0 ≤ e.2.2.1 ∧ e.2.2.1 < m.1.length := by
            rcases hJ.pa e (.inr he) with ⟨_, q, _⟩ | ⟨f, _, k, _, j, _⟩
            · rw [q]; exact hv
            · exact (j.rng g).2
          obtain ⟨l, el, el2⟩ := at_in (xs := nb) ple.1 (by rw [hnb.1]; exact ple.2)
          obtain ⟨hl1, hl2⟩ := hnb.2 _ l el
          rw [show ((e.2.2.1.toNat : Nat) : Int) = e.2.2.1 by omega] at hl2
          refine Tot.of el2 ?_
          have hlw := hJ.ln e (.inr he)
          refine Tot.forN (fun xs (W' : List E4) => (∀ y ∈ xs, y ∈ l) ∧ (∀ f ∈ W1, f ∈ W') ∧ (∀ f ∈ W', f ∈ W1 ∨ ∃ k b, Ch m e k b f ∧ e.2.1.getLast? ≠ some k) ∧ W'.length + xs.length ≤ W1.length + l.length ∧ ∀ y ∈ l, y ∈ xs ∨ (e.2.1.getLast? ≠ some y.1 → Cov (S ++ [e]) W' y.2 (md m y.1) (e.1 + ap e.2.2.2 (md m y.1))))
            ⟨fun y h => h, fun f h => h, fun f h => .inl h, Nat.le_refl _, fun y h => .inl h⟩ (fun y xs W' ⟨a1, a2, a3, a4, a5⟩ => ?_) fun W' ⟨a1, a2, a3, a4, a5⟩ => ?_
          · have jy := (hl2 y).mp (a1 y List.mem_cons_self)
            rw [List.length_cons] at a4
            obtain ⟨P, e1, e2, _, _⟩ := at_md jy.ix
            refine Tot.of e1 (Tot.nm ?_)
            have e2 : p_doubled_middle P = md m y.1 := e2
            rw [e2, cut_last]
            refine Tot.bind (Ψ := fun W'' : List E4 => (∀ f ∈ W1, f ∈ W'') ∧ (∀ f ∈ W'', f ∈ W1 ∨ ∃ k b, Ch m e k b f ∧ e.2.1.getLast? ≠ some k) ∧ W''.length ≤ W'.length + 1 ∧ (∀ f ∈ W', f ∈ W'') ∧ (e.2.1.getLast? ≠ some y.1 → Cov (S ++ [e]) W'' y.2 (md m y.1) (e.1 + ap e.2.2.2 (md m y.1)))) ?_ fun W'' ⟨b1, b2, b3, b4, b5⟩ => ?_
            · refine Tot.ite (fun hp => ?_) fun hp => ?_
              · rw [Bool.and_eq_true, Bool.not_eq_true', Bool.not_eq_true', decide_eq_false_iff_not] at hp
                refine Tot.of (cat_t (by simp only [List.length_singleton]; unfold szl; omega)) ?_
                refine Tot.of (app_t (by unfold szl; omega)) ⟨_, rfl, fun f hf => List.mem_append_left _ (a2 f hf), fun f hf => ?_, by rw [List.length_append, List.length_singleton]; omega, fun f hf => List.mem_append_left _ hf, fun _ => ?_⟩
                · rcases List.mem_append.mp hf with hf | hf
                  · exact a3 f hf
                  · rw [List.mem_singleton.mp hf]
                    exact .inr ⟨y.1, y.2, ⟨rfl, jy, rfl, rfl, rfl⟩, hp.2⟩
                · exact ⟨_, .inr (List.mem_append_right _ (List.mem_singleton.mpr rfl)), rfl, rfl, Int.le_refl _⟩
              · refine ⟨_, rfl, a2, a3, by omega, fun f hf => hf, fun hk => ?_⟩
                rw [decide_eq_false hk, Bool.not_false, Bool.and_true, Bool.not_eq_false', List.any_eq_true] at hp
                obtain ⟨k, hk1, hk2⟩ := hp
                have hk2 := of_decide_eq_true hk2
                obtain ⟨f, hf, rfl⟩ := List.mem_map.mp hk1
                refine ⟨f, .inl hf, congrArg Prod.fst hk2, congrArg Prod.snd hk2, ?_⟩
                have nn := ap_nn e.2.2.2 (md m y.1)
                rcases List.mem_append.mp hf with hf | hf
                · have := hJ.ord f hf e he
                  omega
                · rw [List.mem_singleton.mp hf]
                  omega
            · refine ⟨_, rfl, fun z hz => a1 z (List.mem_cons_of_mem _ hz), b1, b2, by omega, fun z hz => ?_⟩
              rcases a5 z hz with h | h
              · rcases List.mem_cons.mp h with rfl | h
                · exact .inr b5
                · exact .inl h
              · refine .inr fun hk => ?_
                obtain ⟨f, hf, q⟩ := h hk
                exact ⟨f, hf.imp id (b4 f), q⟩
          · simp only [List.length_nil, Nat.add_zero] at a4
            refine ⟨_, rfl, (30 - (S.length + 1)) * 40 + W'.length, by omega, S ++ [e], rfl, hJ.take he hmin m1 m2 hd a2 a3 fun k b j hk => ?_, hb', by show W'.length ≤ 1 + 28 * (S ++ [e]).length; rw [List.length_append, List.length_singleton]; omega, by rw [List.length_append, List.length_singleton]⟩
            rcases a5 (k, b) ((hl2 (k, b)).mpr j) with h | h
            · cases h
            · exact h hk
  exact main
end W
set_option Elab.async false
set_option linter.all false
set_option maxRecDepth 100000
set_option maxHeartbeats 1000000
namespace W
open PySem L2 Mi
theorem reprD_t {d : D} (hv : isVal d = true) (h : Rep d 40 1000000) (hr : isRow d = true) : ∃ r, Pl.reprD d = some r := by
  have e := repr_ev (x := d) (z := ⟨[], []⟩) (snap_val hv _) h hr
  refine ⟨shw d, ?_⟩
  unfold F.repr at e
  dsimp only at e
  rw [snap_val hv] at e
  unfold Pl.reprD
  split
  · cases hr
  · cases hq : O.toP d with
    | none => rw [hq] at e; cases e
    | some p =>
      rw [hq] at e
      dsimp only at e ⊢
      split at e
      · rename_i c
        rw [if_pos c]
        injection e with e
        injection e with e
        rw [e]
      · cases e
theorem rep_sm {i : Int} (h : sm i) : Rep (.int i) 0 40 := Rep.int (by unfold sm at h; omega)
theorem rep_mesh {m : Msh} (g : GM m) : ∃ r, Pl.reprD ((e2 (eL (e6 (eG "plate") eI eI eI eI (e1 eI))) (eL (e7 (eG "portal") eI eI eI eI eI eI))) m) = some r := by
  refine reprD_t rfl (Rep.mono (Rep.tup (n := 2) (dep := 3) (wt := 20000) (fun d hd => ?_) (Nat.le_refl _)) (by decide) (by decide)) rfl
  have g1 := g.l1
  have g2 := g.l2
  rcases List.mem_cons.mp hd with rfl | hd
  · refine Rep.mono (Rep.lst (n := 14) (dep := 2) (wt := 1000) (fun d hd => ?_) (by rw [List.length_map]; omega)) (by decide) (by decide)
    obtain ⟨q, hq, rfl⟩ := List.mem_map.mp hd
    obtain ⟨k, hk, rfl⟩ := g.pl q hq
    refine Rep.mono (Rep.tup (n := 6) (dep := 1) (wt := 100) (fun d hd => ?_) (Nat.le_refl _)) (by decide) (by decide)
    simp only [List.mem_cons, List.not_mem_nil, or_false] at hd
    have z : Rep (.int 0) 0 40 := Rep.int (by decide)
    rcases hd with rfl | rfl | rfl | rfl | rfl | rfl
    · exact Rep.mono (show Rep (.str "plate") 0 100 from Rep.str (by decide +kernel) (by decide +kernel)) (by decide) (by decide)
    · exact Rep.mono (rep_sm hk) (by decide) (by decide)
    · exact Rep.mono z (by decide) (by decide)
    · exact Rep.mono (rep_sm hk) (by decide) (by decide)
    · exact Rep.mono z (by decide) (by decide)
    · exact Rep.mono (Rep.tup (n := 1) (dep := 0) (wt := 40) (fun d hd => by rw [List.mem_singleton.mp hd]; exact Rep.int (by decide)) (Nat.le_refl _)) (by decide) (by decide)
  · rw [List.mem_singleton.mp hd]
    refine Rep.mono (Rep.lst (n := 14) (dep := 2) (wt := 1000) (fun d hd => ?_) (by rw [List.length_map]; omega)) (by decide) (by decide)
    obtain ⟨q, hq, rfl⟩ := List.mem_map.mp hd
    have ok := g.ok q hq
    have a := ok.a
    have b := ok.b
    refine Rep.mono (Rep.tup (n := 7) (dep := 1) (wt := 100) (fun d hd => ?_) (Nat.le_refl _)) (by decide) (by decide)
    simp only [List.mem_cons, List.not_mem_nil, or_false] at hd
    rcases hd with rfl | rfl | rfl | rfl | rfl | rfl | rfl
    · exact Rep.mono (show Rep (.str "portal") 0 100 from Rep.str (by decide +kernel) (by decide +kernel)) (by decide) (by decide)
    · exact Rep.mono (Rep.int (by omega)) (by decide) (by decide)
    · exact Rep.mono (Rep.int (by omega)) (by decide) (by decide)
    · exact Rep.mono (rep_sm ok.x0) (by decide) (by decide)
    · exact Rep.mono (rep_sm ok.z0) (by decide) (by decide)
    · exact Rep.mono (rep_sm ok.x1) (by decide) (by decide)
    · exact Rep.mono (rep_sm ok.z1) (by decide) (by decide)
theorem law_tot (s : DS) : Tot (p_law s) fun r => r.1 = true := by
  unfold p_law
  refine Tot.bind (mesh_t s) fun m g => ?_
  obtain ⟨m, s1⟩ := m
  dsimp only at g ⊢
  obtain ⟨rr, er⟩ := rep_mesh g
  have g1 := g.l1
  have g0 := g.l0
  refine Tot.of er (Tot.nm (Tot.of (r := [0, 1, 2]) rng3O ?_))
  refine Tot.forO (fun _ _ => True) (fun _ => False) (fun r : Bool × DS => False) trivial (fun i xs s _ => ?_) (fun s _ => ⟨_, rfl, rfl⟩) fun r h => h.elim
  refine Tot.draw (by decide) (by decide) fun x1 s2 x10 x11 => ?_
  refine Tot.draw (by decide) (by decide) fun z1 s3 z10 z11 => ?_
  refine Tot.draw (by omega) (by omega) fun v1 s4 v10 v11 => Tot.nm ?_
  refine Tot.draw (by decide) (by decide) fun x2 s5 x20 x21 => ?_
  refine Tot.draw (by decide) (by decide) fun z2 s6 z20 z21 => ?_
  refine Tot.draw (by omega) (by omega) fun v2 s7 v20 v21 => ?_
  refine Tot.bind (pick_t [v1, v2] (Nat.succ_pos _) (show 2 ≤ 1000 by decide) _) fun q hq => Tot.nm ?_
  obtain ⟨q, s8⟩ := q
  have hq2 : q = v1 ∨ q = v2 := by simpa using hq
  dsimp only
  have ha : smP (x1, z1, v1) := by unfold smP sm; dsimp only; omega
  have hb : smP (x2, z2, q) := by unfold smP sm; dsimp only; omega
  obtain ⟨r, e1, r1, r2⟩ := least_t g ha hb
  obtain ⟨t, e2, t1, t2⟩ := cheap_t g ha hb ⟨v10, v11⟩
  refine Tot.of e1 (Tot.of e2 ?_)
  cases t with
  | none =>
    have hr : r = none := by
      cases r with
      | none => rfl
      | some c =>
        obtain ⟨⟨w, hw, _⟩, _⟩ := r2 c rfl
        exact absurd hw (t1 rfl w)
    subst hr
    exact Tot.iteT rfl (Tot.iteF rfl ⟨_, rfl, trivial⟩)
  | some p =>
    obtain ⟨c, w⟩ := p
    obtain ⟨⟨hw, hc, hn, hl⟩, hm⟩ := t2 c w rfl
    have hr : r = some c := by
      cases r with
      | none => exact absurd hw (r1 rfl w)
      | some d =>
        obtain ⟨⟨w2, hw2, hd⟩, hd2⟩ := r2 d rfl
        have := hm w2 hw2
        have := hd2 w hw
        rw [show d = c by omega]
    subst hr
    have ix := hw.ix
    have lc := lcost_t ha hb ix
    have pc := cost_t ha hb ix (by omega)
    rw [← hc] at lc pc
    refine Tot.iteF rfl ?_
    refine Tot.of (r := (c, w)) rfl ?_
    refine Tot.of (r := false) ?_ (Tot.iteF rfl ?_)
    · show (Pl.orO false ((Pl.orO (!decide (some c = some c)) ((p_law_cost m (x1, z1, v1) (x2, z2, q) w).bind fun t30 => some (!decide (some t30 = some c)))).bind fun t31 => some t31)) = _
      rw [lc, decide_eq_true rfl]
      show some (!decide (some c = some c)) = _
      rw [decide_eq_true rfl]
      rfl
    refine Tot.of (r := (c, w)) rfl ?_
    refine Tot.rngO ⟨by decide, by dsimp only; omega⟩ ?_
    refine Tot.of (r := []) ?_ ?_
    · rw [comp_e (fun _ => false) id (by rw [rng_len]; dsimp only; unfold szl; omega) fun i hi => ⟨?_, fun h => nomatch h⟩]
      · simp
      · have hi := rng_mem.mp hi
        dsimp only at hi
        obtain ⟨a, f1, f2⟩ := at_in (xs := w) hi.1 (by omega)
        obtain ⟨b, f3, f4⟩ := at_in (xs := w) (i := i + 1) (by omega) (by omega)
        rw [Option.bind_some, f2, Option.bind_some, Option.bind_some, f4, Option.bind_some]
        refine congrArg some (decide_eq_false (hn i.toNat a b f1 ?_))
        rw [show i.toNat + 1 = (i + 1).toNat by omega]
        exact f3
    refine Tot.iteF rfl ?_
    refine Tot.of (r := (c, w)) rfl ?_
    obtain ⟨pl, f1, f2⟩ := plates_t g hw (by omega)
    refine Tot.of f1 ?_
    refine Tot.of (r := false) ?_ (Tot.iteF rfl ?_)
    · show (Pl.orO false ((Pl.at_ pl ((pl.length : Int) - 1)).bind _)) = _
      rw [f2]
      show ((Pl.orO (!decide (q = q)) ((p_cost m (x1, z1, v1) (x2, z2, q) w).bind fun t47 => some (!decide (some t47 = some c)))).bind fun t48 => some t48) = _
      rw [pc, decide_eq_true rfl]
      show some (!decide (some c = some c)) = _
      rw [decide_eq_true rfl]
      rfl
    refine Tot.bind (walk_t g v1 s8) fun u ⟨u1, u2⟩ => ?_
    refine Tot.draw (by decide) (by decide) fun x3 s9 x30 x31 => ?_
    refine Tot.draw (by decide) (by decide) fun z3 s10 z30 z31 => Tot.nm ?_
    have hd : smP (x3, z3, u.1.2) := by unfold smP sm; dsimp only; omega
    refine Tot.of (cost_t ha hd u1 (by omega)) (Tot.of (lcost_t ha hd u1) ?_)
    refine Tot.of (r := false) ?_ (Tot.iteF rfl ⟨_, rfl, trivial⟩)
    rw [er, decide_eq_true rfl]
    show some (!decide (rr = rr)) = _
    rw [decide_eq_true rfl]
    rfl
theorem law_true : ∀ ns : List Int, ns.length ≤ 63 → ∃ h', m_law [.scr (ns.map D.int)] [] = some (.bl true, h') := by
  intro ns hl
  obtain ⟨s, e⟩ := Dr.state_ev ns hl
  obtain ⟨r, e2, h⟩ := law_tot s
  have e3 := q_law (tl := []) (h0 := []) (v_script := .scr (ns.map D.int)) e e2 rfl
  rw [h] at e3
  exact ⟨_, e3⟩
end W
open PySem PySem.W PyProof.Rows
set_option maxRecDepth 100000 in
set_option maxHeartbeats 0 in
theorem PySem.Challenge.cw_footpath_k34_cheapest_ways_holds : PySem.Challenge.rw_footpath_k34_cheapest_ways.Holds := by
  w_on; o_law
  refine HandSHeadRun.head_any (r := OpenLaw.row PySem.Challenge.rw_footpath_k34_cheapest_ways) (q := view (OpenLaw.row PySem.Challenge.rw_footpath_k34_cheapest_ways).prog [18]) (H := W.hk_) (ob := W.ob_) (M := 9000) (loose := W.loose_) (d := HandSHeadRun.topDef (OpenLaw.row PySem.Challenge.rw_footpath_k34_cheapest_ways).prog 18) (kwd := []) W.ob_eq
    (by kernel_rfl) (fun s => by kernel_rfl) W.run_ (by kernel_rfl) (by kernel_rfl) (by kernel_rfl) (by rfl) (by first | assumption | decide +kernel) (by decide +kernel) ⟨rfl, rfl, rfl, rfl, rfl, by decide +kernel⟩ ?hw ?hc
  case hw => w_witness2
  case hc =>
    refine Mi.walkX (l := PySem.Challenge.rw_footpath_k34_cheapest_ways) (k := 4) (x := "_law_script") (mf := W.m_law) rfl (by kernel_rfl) ⟨rfl, by decide, by decide⟩ ?F W.law_true
    intro w mg fa hp Y G hmg0
    obtain ⟨K, KX, c⟩ := Y
    have hmg : mg ("law" : PySem.Str) = some (.ref fa) := by
      have e : (HandSHeadRun.topDef (OpenLaw.row PySem.Challenge.rw_footpath_k34_cheapest_ways).prog 18).name = ("law" : PySem.Str) := by kernel_rfl
      rw [← e]
      exact hmg0
    exact W.facts KX G hmg c
