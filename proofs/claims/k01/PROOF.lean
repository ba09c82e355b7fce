import PyProof.Rows.All
import Wide.All
import OpenK.AllK
import Wide.FinOn
import HandS.ForMost
import HandS.Wide
import HandS.Flow
import HandS.Lambda
import HandS.EndTab
import HandS.IsInst
import HandS.NoneIn
import HandS.Deep
import KE.SortData
import KE.SortKeyHeap
import PyProof.ReprLen
import HandS.Dict
import HandS.Iter
import KE.KDictSum
import KE.KDictCopyH
import KE.KDictExact
import KE.KRevSl
import PyProof.Transfer
import HandS.Style
import KE.DataMinMax
import KE.DatumOrd
import HandS.MakeKwOnly
import HandS.HeadHook4
import HandS.HeadWalk
import HandS.Sort
import HandS.TupLen
import HandS.DictComp
import HandS.DeepEq
import PyProof.DictMoreH
import KE.SortCalls
import HandS.ForExc
import HandS.ExcInit
import HandS.ExcField
import HandS.ExcIs
import HandS.Head2
import KE.KExcIs
import PySem.Challenge.RW_footpath_k01_settings
set_option Elab.async false
set_option linter.all false
set_option maxRecDepth 100000
/-! Mi, part A: data, the relation to the heap, the state. -/
namespace Mi
open PySem PySem.Spec PyProof.Rows L2

/-- what the walk knows beside the fragment: the tables of code objects, the classes by name -/
structure Tbs where
  t : List (Addr × Str)
  c : List (Str × Addr)
structure Kx where
  k : PySem.W.Frag
  tb : Tbs
instance : Coe Kx PySem.W.Frag := ⟨Kx.k⟩
@[reducible] def kx (X : Cx) (Tb : Tbs) : Kx := ⟨X.K, Tb⟩
/-- data. kt: a written tuple; lst: a list that is not changed any more; scr: the script; ref: an object of the shared heap; own: the object that a slot of the frame owns -/
inductive D where
  | non | bl (b : Bool) | int (i : Int) | str (x : Str)
  | tup (xs : List D) | kt (xs : List D) | lst (xs : List D) | scr (xs : List D)
  | ref (n : Nat) | own (i : Nat)
  | dk (kvs : List (Key × D)) | dt (kvs : List (List Key × D))
  | ins (nm : Str) (fs : List (Str × D))

mutual
inductive Rp (K : Kx) (F : Hp) (rho : List Addr) : D → V → Prop
  | non : Rp K F rho .non .non
  | bl (b : Bool) : Rp K F rho (.bl b) (.bl b)
  | int (i : Int) : Rp K F rho (.int i) (.int i)
  | str (x : Str) : Rp K F rho (.str x) (.str x)
  | tup {a : Addr} {xs : List V} {ds : List D} : F a = some (.tup xs) → Rps K F rho ds xs → Rp K F rho (.tup ds) (.ref a)
  | kt {a : Addr} {xs : List V} {ds : List D} : SqT K F a xs → Rps K F rho ds xs → Rp K F rho (.kt ds) (.ref a)
  | lst {a : Addr} {xs : List V} {ds : List D} : F a = some (.lst xs) → Rps K F rho ds xs → Rp K F rho (.lst ds) (.ref a)
  | scr {a : Addr} {xs : List V} {ds : List D} : SqL K F a xs → Rps K F rho ds xs → Rp K F rho (.scr ds) (.ref a)
  | ref {n : Nat} {a : Addr} : rho[n]? = some a → Rp K F rho (.ref n) (.ref a)
  | dk {a : Addr} {es : List (Key × V)} {kvs : List (Key × D)} {o : Obj} : F a = some (.frz o (.dK es)) → es.map Prod.fst = kvs.map Prod.fst → Rps K F rho (kvs.map Prod.snd) (es.map Prod.snd) → Rp K F rho (.dk kvs) (.ref a)
  | dt {a : Addr} {es : List (List Key × V)} {kvs : List (List Key × D)} {o : Obj} : F a = some (.frz o (.dT es)) → es.map Prod.fst = kvs.map Prod.fst → Rps K F rho (kvs.map Prod.snd) (es.map Prod.snd) → Rp K F rho (.dt kvs) (.ref a)
  | ins {nm : Str} {a C dx : Addr} {es : List (Str × V)} {fs : List (Str × D)} : (nm, C) ∈ K.tb.c → F a = some (.ins C dx es) → es.map Prod.fst = fs.map Prod.fst → Rps K F rho (fs.map Prod.snd) (es.map Prod.snd) → Rp K F rho (.ins nm fs) (.ref a)
inductive Rps (K : Kx) (F : Hp) (rho : List Addr) : List D → List V → Prop
  | nil : Rps K F rho [] []
  | cons {d : D} {v : V} {ds : List D} {vs : List V} : Rp K F rho d v → Rps K F rho ds vs → Rps K F rho (d :: ds) (v :: vs)
end

theorem Same.rd {H H' : Hp} {a : Addr} {u : HO} (e : Same H H') (h : Rd H a u) : Rd H' a u := by
  rcases h with h | ⟨o, h⟩
  · exact .inl (e _ _ h)
  · exact .inr ⟨o, e _ _ h⟩
theorem Same.sqt {K : Kx} {H H' : Hp} {a : Addr} {xs : List V} (e : Same H H') (h : SqT K H a xs) : SqT K H' a xs := by
  rcases h with (h | ⟨o, h⟩) | h
  · exact .inl (.inl (e _ _ h))
  · exact .inl (.inr ⟨o, e _ _ h⟩)
  · exact .inr h

section
variable {K : Kx} {F F' : Hp} {rho rho' : List Addr}
theorem pre_get {a : Addr} {n : Nat} (p : rho <+: rho') (h : rho[n]? = some a) : rho'[n]? = some a := by
  obtain ⟨t, rfl⟩ := p
  rw [List.getElem?_append_left (List.getElem?_eq_some_iff.mp h).1]
  exact h
mutual
theorem Rp.mono (e : Same F F') (p : rho <+: rho') : ∀ {d : D} {v : V}, Rp K F rho d v → Rp K F' rho' d v
  | _, _, .non => .non
  | _, _, .bl b => .bl b
  | _, _, .int i => .int i
  | _, _, .str x => .str x
  | _, _, .tup h r => .tup (e _ _ h) (Rps.mono e p r)
  | _, _, .kt h r => .kt (Same.sqt e h) (Rps.mono e p r)
  | _, _, .lst h r => .lst (e _ _ h) (Rps.mono e p r)
  | _, _, .scr h r => .scr (e.seq h) (Rps.mono e p r)
  | _, _, .ref h => .ref (pre_get p h)
  | _, _, .dk h k r => .dk (e _ _ h) k (Rps.mono e p r)
  | _, _, .dt h k r => .dt (e _ _ h) k (Rps.mono e p r)
  | _, _, .ins m h k r => .ins m (e _ _ h) k (Rps.mono e p r)
theorem Rps.mono (e : Same F F') (p : rho <+: rho') : ∀ {ds : List D} {vs : List V}, Rps K F rho ds vs → Rps K F' rho' ds vs
  | _, _, .nil => .nil
  | _, _, .cons h r => .cons (Rp.mono e p h) (Rps.mono e p r)
end
theorem Rps.length : ∀ {ds : List D} {vs : List V}, Rps K F rho ds vs → ds.length = vs.length
  | _, _, .nil => rfl
  | _, _, .cons _ r => by rw [List.length_cons, List.length_cons, Rps.length r]
theorem Rps.get : ∀ {ds : List D} {vs : List V} {i : Nat} {d : D}, Rps K F rho ds vs → ds[i]? = some d → ∃ v, vs[i]? = some v ∧ Rp K F rho d v
  | _, _, _, _, .nil, h => by simp at h
  | _, _, 0, d, .cons r _, h => by
    simp at h
    subst h
    exact ⟨_, rfl, r⟩
  | _, _, i + 1, d, .cons _ r, h => by
    obtain ⟨v, h1, h2⟩ := Rps.get (i := i) (d := d) r (by simpa using h)
    exact ⟨v, by simpa using h1, h2⟩
theorem Rps.get' : ∀ {ds : List D} {vs : List V} {i : Nat} {v : V}, Rps K F rho ds vs → vs[i]? = some v → ∃ d, ds[i]? = some d ∧ Rp K F rho d v
  | _, _, _, _, .nil, h => by simp at h
  | _, _, 0, d, .cons r _, h => by
    simp at h
    subst h
    exact ⟨_, rfl, r⟩
  | _, _, i + 1, d, .cons _ r, h => by
    obtain ⟨v, h1, h2⟩ := Rps.get' (i := i) (v := d) r (by simpa using h)
    exact ⟨v, by simpa using h1, h2⟩
theorem Rps.append : ∀ {ds es : List D} {vs us : List V}, Rps K F rho ds vs → Rps K F rho es us → Rps K F rho (ds ++ es) (vs ++ us)
  | _, _, _, _, .nil, s => s
  | _, _, _, _, .cons h r, s => .cons h (Rps.append r s)
theorem Rps.one {d : D} {v : V} (h : Rp K F rho d v) : Rps K F rho [d] [v] := .cons h .nil
theorem Rps.set {d : D} {v : V} (h : Rp K F rho d v) : ∀ {ds : List D} {vs : List V} (i : Nat), Rps K F rho ds vs → Rps K F rho (ds.set i d) (vs.set i v)
  | _, _, _, .nil => .nil
  | _, _, 0, .cons _ r => .cons h r
  | _, _, i + 1, .cons q r => .cons q (Rps.set h i r)
theorem Rps.eraseIdx : ∀ {ds : List D} {vs : List V} (i : Nat), Rps K F rho ds vs → Rps K F rho (ds.eraseIdx i) (vs.eraseIdx i)
  | _, _, _, .nil => .nil
  | _, _, 0, .cons _ r => r
  | _, _, i + 1, .cons q r => .cons q (Rps.eraseIdx i r)
theorem Rps.take : ∀ {ds : List D} {vs : List V} (i : Nat), Rps K F rho ds vs → Rps K F rho (ds.take i) (vs.take i)
  | _, _, 0, _ => .nil
  | _, _, _ + 1, .nil => .nil
  | _, _, i + 1, .cons q r => .cons q (Rps.take i r)
theorem Rps.drop : ∀ {ds : List D} {vs : List V} (i : Nat), Rps K F rho ds vs → Rps K F rho (ds.drop i) (vs.drop i)
  | _, _, 0, r => r
  | _, _, _ + 1, .nil => .nil
  | _, _, i + 1, .cons _ r => Rps.drop i r
theorem Rps.dropLast {ds : List D} {vs : List V} (r : Rps K F rho ds vs) : Rps K F rho ds.dropLast vs.dropLast := by
  rw [List.dropLast_eq_take, List.dropLast_eq_take, r.length]
  exact r.take _
theorem Rps.reverse : ∀ {ds : List D} {vs : List V}, Rps K F rho ds vs → Rps K F rho ds.reverse vs.reverse
  | _, _, .nil => .nil
  | _, _, .cons h r => by
    rw [List.reverse_cons, List.reverse_cons]
    exact (Rps.reverse r).append (.one h)
theorem Rps.ints : ∀ (ns : List Int), Rps K F rho (ns.map D.int) (ns.map V.int)
  | [] => .nil
  | n :: ns => .cons (.int n) (Rps.ints ns)
theorem Rps.ints_inv : ∀ {ns : List Int} {vs : List V}, Rps K F rho (ns.map D.int) vs → vs = ns.map V.int
  | [], _, .nil => rfl
  | n :: ns, _, .cons h r => by
    cases h
    rw [Rps.ints_inv r]
    rfl
end

/-- an object that may be changed, by its content -/
def Ob (K : Kx) (F : Hp) (rho : List Addr) (H : Hp) (a : Addr) : D → Prop
  | .lst ds => ∃ xs, H a = some (.lst xs) ∧ Rps K F rho ds xs
  | .dk kvs => ∃ es : List (Key × V), H a = some (.dK es) ∧ es.map Prod.fst = kvs.map Prod.fst ∧ Rps K F rho (kvs.map Prod.snd) (es.map Prod.snd)
  | .dt kvs => ∃ es : List (List Key × V), H a = some (.dT es) ∧ es.map Prod.fst = kvs.map Prod.fst ∧ Rps K F rho (kvs.map Prod.snd) (es.map Prod.snd)
  | .ins nm fs => ∃ (C dx : Addr) (es : List (Str × V)), (nm, C) ∈ K.tb.c ∧ H a = some (.ins C dx es) ∧ es.map Prod.fst = fs.map Prod.fst ∧ Rps K F rho (fs.map Prod.snd) (es.map Prod.snd)
  | _ => False

/-- a slot of the frame -/
inductive Sl where
  | no | val (d : D) | own (d : D)
/-- the state: the frame's slots, the shared heap -/
structure Z where
  s : List Sl
  h : List D

/-- the tables: each code object that one tells is known for ever -/
structure TbOk (K : Kx) (F H : Hp) : Prop where
  tb : ∀ p ∈ K.tb.t, ∃ ps : Array Value, H p.1 = some (.tbl ps) ∧ TriplesOk ps.toList ∧ ∀ (pos : Pos) (cv : Value), codeAmong pos ps.toList = some cv → ∃ c, cv = .ref c ∧ F c = some (LamX.CodeO c p.2)
  un : ∀ p ∈ K.tb.t, ∀ q ∈ K.tb.t, p.1 = q.1 → p.2 = q.2
  nf : ∀ p ∈ K.tb.t, F p.1 = none
/-- the shared heap -/
structure Rh (K : Kx) (F : Hp) (rho : List Addr) (h : List D) (H : Hp) : Prop where
  fro : Same F H
  len : h.length = rho.length
  obs : ∀ (n : Nat) (d : D) (a : Addr), h[n]? = some d → rho[n]? = some a → Ob K F rho H a d
  inj : ∀ (i j : Nat) (a : Addr), rho[i]? = some a → rho[j]? = some a → i = j
  nf : ∀ (n : Nat) (a : Addr), rho[n]? = some a → F a = none
  tb : TbOk K F H
  tr : ∀ p ∈ K.tb.t, ∀ n : Nat, ¬ rho[n]? = some p.1

/-- the base of a frame (or of a part of it): what may be changed is mu or new -/
structure Bs where
  H0 : Hp
  F0 : Hp
  r0 : List Addr
  mu : Addr → Prop

def SlOk (K : Kx) (F : Hp) (rho : List Addr) (om : Nat → Option Addr) (H : Hp) (i : Nat) (o : Option (Option V)) : Sl → Prop
  | .no => True
  | .val d => ∃ v, o = some (some v) ∧ Rp K F rho d v
  | .own d => ∃ a, om i = some a ∧ o = some (some (.ref a)) ∧ Ob K F rho H a d

/-- no tuple -/
@[reducible] def NT (o : HO) : Prop := ∀ xs, o ≠ .tup xs
structure Rl (K : Kx) (B : Bs) (F : Hp) (rho : List Addr) (om : Nat → Option Addr) (z : Z) (σ : L2.St) (H : Hp) : Prop where
  rh : Rh K F rho z.h H
  len : z.s.length = σ.length
  sl : ∀ (i : Nat) (x : Sl), z.s[i]? = some x → SlOk K F rho om H i σ[i]? x
  oj : ∀ (i j : Nat) (a : Addr), om i = some a → om j = some a → i = j
  orr : ∀ (i n : Nat) (a : Addr), om i = some a → ¬ rho[n]? = some a
  off : ∀ (i : Nat) (a : Addr), om i = some a → F a = none
  oth : ∀ (i : Nat) (a : Addr), om i = some a → ∃ o, H a = some o ∧ NT o
  frm : ∀ (a : Addr) (o : HO), B.H0 a = some o → ¬ B.mu a → H a = some o
  exf : Same B.F0 F
  exr : B.r0 <+: rho
  nF : ∀ (a : Addr) (o : HO), B.H0 a = some o → NT o → B.F0 a = none → ¬ B.mu a → F a = none
  nr : ∀ (n : Nat) (a : Addr), rho[n]? = some a → B.mu a ∨ B.H0 a = none
  no : ∀ (i : Nat) (a : Addr), om i = some a → B.mu a ∨ B.H0 a = none
  ow : ∀ (i : Nat) (a : Addr), om i = some a → ∃ d, z.s[i]? = some (.own d)
  to : ∀ p ∈ K.tb.t, ∀ i : Nat, ¬ om i = some p.1
  mt : ∀ p ∈ K.tb.t, B.mu p.1

/-- a value in passing: it may be the object that a slot owns -/
inductive Rv (K : Kx) (F : Hp) (rho : List Addr) (om : Nat → Option Addr) : D → V → Prop
  | pure {d : D} {v : V} : Rp K F rho d v → Rv K F rho om d v
  | own {i : Nat} {a : Addr} : om i = some a → Rv K F rho om (.own i) (.ref a)
theorem Rv.mono {K : Kx} {F F' : Hp} {rho rho' : List Addr} {om : Nat → Option Addr} (e : Same F F') (p : rho <+: rho') {d : D} {v : V} (h : Rv K F rho om d v) : Rv K F' rho' om d v := by
  cases h with
  | pure h => exact .pure (h.mono e p)
  | own h => exact .own h

section
variable {K : Kx} {B : Bs} {F F' : Hp} {rho rho' : List Addr} {om om' : Nat → Option Addr} {z z' : Z} {σ σ' : L2.St} {H H' : Hp} {a p : Addr} {d : D} {v : V}
theorem Ob.mono (e : Same F F') (q : rho <+: rho') (h1 : H' a = H a) (h : Ob K F rho H a d) : Ob K F' rho' H' a d := by
  cases d <;> try exact h.elim
  · obtain ⟨xs, e1, r⟩ := h
    exact ⟨xs, h1.trans e1, r.mono e q⟩
  · obtain ⟨es, e1, k, r⟩ := h
    exact ⟨es, h1.trans e1, k, r.mono e q⟩
  · obtain ⟨es, e1, k, r⟩ := h
    exact ⟨es, h1.trans e1, k, r.mono e q⟩
  · obtain ⟨C, dx, es, m, e1, k, r⟩ := h
    exact ⟨C, dx, es, m, h1.trans e1, k, r.mono e q⟩
theorem Ob.there (h : Ob K F rho H a d) : ∃ o, H a = some o ∧ NT o := by
  cases d <;> try exact h.elim
  · obtain ⟨xs, e1, r⟩ := h
    exact ⟨_, e1, fun _ e => nomatch e⟩
  · obtain ⟨es, e1, r⟩ := h
    exact ⟨_, e1, fun _ e => nomatch e⟩
  · obtain ⟨es, e1, r⟩ := h
    exact ⟨_, e1, fun _ e => nomatch e⟩
  · obtain ⟨C, dx, es, m, e1, r⟩ := h
    exact ⟨_, e1, fun _ e => nomatch e⟩
theorem Rh.there (r : Rh K F rho z.h H) {n : Nat} (h : rho[n]? = some a) : ∃ o, H a = some o ∧ NT o := by
  have hl : n < z.h.length := by rw [r.len]; exact (List.getElem?_eq_some_iff.mp h).1
  exact (r.obs n z.h[n] a (List.getElem?_eq_getElem hl) h).there
theorem Rl.fresh0 (R : Rl K B F rho om z σ H) (h : H p = none) : B.H0 p = none ∨ B.mu p := by
  cases q : B.H0 p with
  | none => exact .inl rfl
  | some o =>
    by_cases m : B.mu p
    · exact .inr m
    · rw [R.frm p o q m] at h
      cases h
end
theorem Ob.nt {K : Kx} {F H : Hp} {rho : List Addr} {a : Addr} {d : D} {o : HO} (h : Ob K F rho H a d) (e : H a = some o) : NT o := by
  obtain ⟨o', e', n⟩ := h.there
  rw [e] at e'
  cases e'
  exact n
theorem upd_same' {H : Hp} {a : Addr} {o : HO} : upd H a o a = some o := upd_same
theorem Same.newu {H : Hp} {p : Addr} {o : HO} (h : H p = none) : Same H (upd H p o) := fun a u e => by
  rw [upd_ne (ne_of_none e h)]
  exact e
theorem Same.both {F H : Hp} {p : Addr} {o : HO} (e : Same F H) (h : H p = none) : Same (upd F p o) (upd H p o) := fun a u q => by
  by_cases c : a = p
  · subst c
    rw [upd_same] at q
    rw [upd_same]
    exact q
  · rw [upd_ne c] at q
    rw [upd_ne c]
    exact e _ _ q
theorem Same.upd_out {F H : Hp} {p : Addr} {o : HO} (e : Same F H) (h : F p = none) : Same F (upd H p o) := fun a u q => by
  rw [upd_ne (ne_of_none q h)]
  exact e _ _ q
theorem Same.noneOf {F H : Hp} (e : Same F H) {p : Addr} (h : H p = none) : F p = none := e.free h
end Mi

set_option Elab.async false
set_option linter.all false
set_option maxRecDepth 100000
/-! Mi, part B: how the state goes on: a new object, a slot that is set, an object that is changed, a call. -/
namespace Mi
open PySem PySem.Spec PyProof.Rows L2

/-- an object that is there, of which nobody knows -/
structure Fresh (K : Kx) (B : Bs) (F : Hp) (rho : List Addr) (om : Nat → Option Addr) (H : Hp) (p : Addr) : Prop where
  f : F p = none
  r : ∀ n : Nat, ¬ rho[n]? = some p
  o : ∀ i : Nat, ¬ om i = some p
  b : B.mu p ∨ B.H0 p = none
  t : ∃ u, H p = some u ∧ NT u
  k : ∀ q ∈ K.tb.t, ¬ q.1 = p

def omSet (om : Nat → Option Addr) (i : Nat) (x : Option Addr) : Nat → Option Addr := fun j => if j = i then x else om j
theorem omSet_eq {om : Nat → Option Addr} {i : Nat} {x : Option Addr} : omSet om i x i = x := if_pos rfl
theorem omSet_ne {om : Nat → Option Addr} {i j : Nat} {x : Option Addr} (h : ¬ j = i) : omSet om i x j = om j := if_neg h
theorem omSet_none {om : Nat → Option Addr} {i j : Nat} {a : Addr} (h : omSet om i none j = some a) : ¬ j = i ∧ om j = some a := by
  by_cases c : j = i
  · subst c
    rw [omSet_eq] at h
    cases h
  · rw [omSet_ne c] at h
    exact ⟨c, h⟩

section
variable {K : Kx} {B : Bs} {F F' : Hp} {rho rho' : List Addr} {om om' : Nat → Option Addr} {z z' : Z} {σ σ' : L2.St} {H H' : Hp} {a p : Addr} {d : D} {v : V} {o : HO}

theorem SlOk.mono {i : Nat} {o : Option (Option V)} {x : Sl} (e : Same F F') (q : rho <+: rho') (h : SlOk K F rho om H i o x) (hk : ∀ a, om i = some a → H' a = H a) (ho : om' i = om i) : SlOk K F' rho' om' H' i o x := by
  cases x with
  | no => trivial
  | val d =>
    obtain ⟨v, e1, r⟩ := h
    exact ⟨v, e1, r.mono e q⟩
  | own d =>
    obtain ⟨a, e1, e2, r⟩ := h
    exact ⟨a, ho.trans e1, e2, r.mono e q (hk a e1)⟩
theorem Rh.mono1 {h : List D} (r : Rh K F rho h H) (e : Same F F') (fro : Same F' H') (hk : ∀ (n : Nat) a, rho[n]? = some a → H' a = H a) (nf : ∀ (n : Nat) a, rho[n]? = some a → F' a = none) (tb : TbOk K F' H') : Rh K F' rho h H' :=
  ⟨fro, r.len, fun n d a h1 h2 => (r.obs n d a h1 h2).mono e (List.prefix_refl _) (hk n a h2), r.inj, nf, tb, r.tr⟩
theorem TbOk.mono (t : TbOk K F H) (e : Same F F') (hk : ∀ p ∈ K.tb.t, H' p.1 = H p.1) (hf : ∀ p ∈ K.tb.t, F' p.1 = none) : TbOk K F' H' := by
  refine ⟨fun p hp => ?_, t.un, hf⟩
  obtain ⟨ps, h1, h2, h3⟩ := t.tb p hp
  refine ⟨ps, (hk p hp).trans h1, h2, fun pos cv hc => ?_⟩
  obtain ⟨c, e1, e2⟩ := h3 pos cv hc
  exact ⟨c, e1, e _ _ e2⟩
theorem TbOk.there (t : TbOk K F H) {q : Addr × Str} (hq : q ∈ K.tb.t) : ∃ o, H q.1 = some o := by
  obtain ⟨ps, h1, _⟩ := t.tb q hq
  exact ⟨_, h1⟩
theorem TbOk.ne (t : TbOk K F H) (h : H p = none) : ∀ q ∈ K.tb.t, ¬ q.1 = p := fun q hq e => by
  obtain ⟨u, hu⟩ := t.there hq
  rw [e, h] at hu
  cases hu

/-- what is not there is nobody's -/
theorem Rl.out (R : Rl K B F rho om z σ H) (h : H p = none) : F p = none ∧ (∀ n : Nat, ¬ rho[n]? = some p) ∧ (∀ i : Nat, ¬ om i = some p) ∧ (B.mu p ∨ B.H0 p = none) ∧ (∀ q ∈ K.tb.t, ¬ q.1 = p) := by
  refine ⟨R.rh.fro.free h, fun n e => ?_, fun i e => ?_, (R.fresh0 h).symm, R.rh.tb.ne h⟩
  · obtain ⟨u, q, _⟩ := R.rh.there (z := z) e
    rw [h] at q
    cases q
  · obtain ⟨u, q, _⟩ := R.oth i p e
    rw [h] at q
    cases q
/-- a new object, known to nobody -/
theorem Rl.new (R : Rl K B F rho om z σ H) (h : H p = none) (hn : NT o := by exact fun _ e => nomatch e) : Rl K B F rho om z σ (upd H p o) ∧ Fresh K B F rho om (upd H p o) p := by
  obtain ⟨h1, h2, h3, h4, h5⟩ := R.out h
  have nr : ∀ (n : Nat) a, rho[n]? = some a → a ≠ p := fun n a e q => h2 n (by rw [← q]; exact e)
  have no : ∀ (i : Nat) a, om i = some a → a ≠ p := fun i a e q => h3 i (by rw [← q]; exact e)
  refine ⟨⟨R.rh.mono1 (fun _ _ e => e) (Same.upd_out R.rh.fro h1) (fun n a e => upd_ne (nr n a e)) R.rh.nf (R.rh.tb.mono (fun _ _ e => e) (fun q hq => upd_ne (h5 q hq)) R.rh.tb.nf), R.len, fun i x e => (R.sl i x e).mono (fun _ _ e => e) (List.prefix_refl _) (fun a e => upd_ne (no i a e)) rfl, R.oj, R.orr, R.off,
    fun i a e => by rw [upd_ne (no i a e)]; exact R.oth i a e, fun a u e m => ?_, R.exf, R.exr, R.nF, R.nr, R.no, R.ow, R.to, R.mt⟩, ⟨h1, h2, h3, h4, ⟨_, upd_same, hn⟩, h5⟩⟩
  have q := R.frm a u e m
  rw [upd_ne (ne_of_none q h)]
  exact q
/-- a known object of nobody's is laid down for ever -/
theorem Rl.lay (R : Rl K B F rho om z σ H) (h : Fresh K B F rho om H p) (hp : H p = some o) : Rl K B (upd F p o) rho om z σ H ∧ Same F (upd F p o) := by
  have nr : ∀ (n : Nat) a, rho[n]? = some a → a ≠ p := fun n a e q => h.r n (by rw [← q]; exact e)
  have no : ∀ (i : Nat) a, om i = some a → a ≠ p := fun i a e q => h.o i (by rw [← q]; exact e)
  have s1 : Same F (upd F p o) := Same.newu h.f
  refine ⟨⟨R.rh.mono1 s1 (fun a u e => ?_) (fun _ _ _ => rfl) (fun n a e => by rw [upd_ne (nr n a e)]; exact R.rh.nf n a e) (R.rh.tb.mono s1 (fun _ _ => rfl) fun q hq => by rw [upd_ne (h.k q hq)]; exact R.rh.tb.nf q hq), R.len, fun i x e => (R.sl i x e).mono s1 (List.prefix_refl _) (fun _ _ => rfl) rfl, R.oj, R.orr,
    fun i a e => by rw [upd_ne (no i a e)]; exact R.off i a e, R.oth, R.frm, R.exf.trans s1, R.exr, fun a u e1 nt e2 m' => ?_, R.nr, R.no, R.ow, R.to, R.mt⟩, s1⟩
  · by_cases c : a = p
    · subst c
      rw [upd_same] at e
      rw [hp]
      exact e
    · rw [upd_ne c] at e
      exact R.rh.fro a u e
  · have c : a ≠ p := fun c => by
      subst c
      rcases h.b with q | q
      · exact m' q
      · rw [q] at e1
        cases e1
    rw [upd_ne c]
    exact R.nF a u e1 nt e2 m'
/-- a tuple that stands is known from now on -/
theorem Rl.layT {xs : List V} (R : Rl K B F rho om z σ H) (hp : H p = some (.tup xs)) : ∃ F', Rl K B F' rho om z σ H ∧ Same F F' ∧ F' p = some (.tup xs) ∧ ∀ a o, H a = some o → NT o → F a = none → F' a = none := by
  cases hf : F p with
  | some o =>
    have e := R.rh.fro _ _ hf
    rw [hp] at e
    cases e
    exact ⟨F, R, Same.refl F, hf, fun _ _ _ _ n => n⟩
  | none =>
    have nr : ∀ (n : Nat) a, rho[n]? = some a → a ≠ p := fun n a e c => by
      obtain ⟨u, q, nt⟩ := R.rh.there (z := z) e
      rw [c, hp] at q
      cases q
      exact nt _ rfl
    have no : ∀ (i : Nat) a, om i = some a → a ≠ p := fun i a e c => by
      obtain ⟨u, q, nt⟩ := R.oth i a e
      rw [c, hp] at q
      cases q
      exact nt _ rfl
    have nk : ∀ q ∈ K.tb.t, q.1 ≠ p := fun q hq c => by
      obtain ⟨ps, h1, _⟩ := R.rh.tb.tb q hq
      rw [c, hp] at h1
      cases h1
    have s1 : Same F (upd F p (.tup xs)) := Same.newu hf
    refine ⟨_, ⟨R.rh.mono1 s1 (fun a u e => ?_) (fun _ _ _ => rfl) (fun n a e => by rw [upd_ne (nr n a e)]; exact R.rh.nf n a e) (R.rh.tb.mono s1 (fun _ _ => rfl) fun q hq => by rw [upd_ne (nk q hq)]; exact R.rh.tb.nf q hq), R.len, fun i x e => (R.sl i x e).mono s1 (List.prefix_refl _) (fun _ _ => rfl) rfl, R.oj, R.orr,
      fun i a e => by rw [upd_ne (no i a e)]; exact R.off i a e, R.oth, R.frm, R.exf.trans s1, R.exr, fun a u e1 nt e2 m => ?_, R.nr, R.no, R.ow, R.to, R.mt⟩, s1, upd_same, fun a o e nt n => ?_⟩
    · by_cases c : a = p
      · subst c
        rw [upd_same] at e
        rw [hp]
        exact e
      · rw [upd_ne c] at e
        exact R.rh.fro a u e
    · have c : a ≠ p := fun c => by
        have q := R.frm a u e1 m
        rw [c, hp] at q
        cases q
        exact nt _ rfl
      rw [upd_ne c]
      exact R.nF a u e1 nt e2 m
    · have c : a ≠ p := fun c => by
        rw [c, hp] at e
        cases e
        exact nt _ rfl
      rw [upd_ne c]
      exact n
/-- .. at once -/
theorem Rl.alloc (R : Rl K B F rho om z σ H) (h : H p = none) : ∃ F', Rl K B F' rho om z σ (upd H p o) ∧ Same F F' ∧ F' p = some o := by
  obtain ⟨h1, h2, h3, h4, h5⟩ := R.out h
  have nr : ∀ (n : Nat) a, rho[n]? = some a → a ≠ p := fun n a e q => h2 n (by rw [← q]; exact e)
  have no : ∀ (i : Nat) a, om i = some a → a ≠ p := fun i a e q => h3 i (by rw [← q]; exact e)
  have s1 : Same F (upd F p o) := Same.newu h1
  refine ⟨upd F p o, ⟨R.rh.mono1 s1 (Same.both R.rh.fro h) (fun n a e => upd_ne (nr n a e)) (fun n a e => by rw [upd_ne (nr n a e)]; exact R.rh.nf n a e) (R.rh.tb.mono s1 (fun q hq => upd_ne (h5 q hq)) fun q hq => by rw [upd_ne (h5 q hq)]; exact R.rh.tb.nf q hq), R.len, fun i x e => (R.sl i x e).mono s1 (List.prefix_refl _) (fun a e => upd_ne (no i a e)) rfl, R.oj, R.orr,
    fun i a e => by rw [upd_ne (no i a e)]; exact R.off i a e, fun i a e => by rw [upd_ne (no i a e)]; exact R.oth i a e, fun a u e m => ?_, R.exf.trans s1, R.exr, fun a u e1 nt e2 m => ?_, R.nr, R.no, R.ow, R.to, R.mt⟩, s1, upd_same⟩
  · have q := R.frm a u e m
    rw [upd_ne (ne_of_none q h)]
    exact q
  · have q := R.frm a u e1 m
    rw [upd_ne (ne_of_none q h)]
    exact R.nF a u e1 nt e2 m
/-- a slot is set to a value -/
theorem Rl.setVal (R : Rl K B F rho om z σ H) (i : Nat) (r : Rp K F rho d v) : Rl K B F rho (omSet om i none) ⟨z.s.set i (.val d), z.h⟩ (σ.set i (some v)) H := by
  refine ⟨R.rh, by simp only [List.length_set]; exact R.len, fun j x e => ?_, fun a b c e1 e2 => R.oj a b c (omSet_none e1).2 (omSet_none e2).2, fun a b c e => R.orr a b c (omSet_none e).2, fun a c e => R.off a c (omSet_none e).2, fun a c e => R.oth a c (omSet_none e).2,
    R.frm, R.exf, R.exr, R.nF, R.nr, fun a c e => R.no a c (omSet_none e).2, fun j a e => by
      obtain ⟨c, e⟩ := omSet_none e
      obtain ⟨d', q⟩ := R.ow j a e
      exact ⟨d', by rw [← q]; exact List.getElem?_set_ne (Ne.symm c)⟩, fun p hp j e => R.to p hp j (omSet_none e).2, R.mt⟩
  have e : (z.s.set i (.val d))[j]? = some x := e
  by_cases c : j = i
  · subst c
    have hl : j < z.s.length := by
      have := (List.getElem?_eq_some_iff.mp e).1
      simpa using this
    rw [List.getElem?_set_self hl] at e
    cases e
    exact ⟨v, List.getElem?_set_self (by rw [← R.len]; exact hl), r⟩
  · rw [List.getElem?_set_ne (Ne.symm c)] at e
    rw [List.getElem?_set_ne (Ne.symm c)]
    exact (R.sl j x e).mono (fun _ _ e => e) (List.prefix_refl _) (fun _ _ => rfl) (omSet_ne c)
/-- a slot takes an object of nobody's -/
theorem Rl.setOwn (R : Rl K B F rho om z σ H) (i : Nat) (hi : i < z.s.length) (h : Fresh K B F rho om H p) (r : Ob K F rho H p d) : Rl K B F rho (omSet om i (some p)) ⟨z.s.set i (.own d), z.h⟩ (σ.set i (some (.ref p))) H := by
  have cs : ∀ {j : Nat} {a : Addr}, omSet om i (some p) j = some a → (j = i ∧ a = p) ∨ (¬ j = i ∧ om j = some a) := fun {j a} e => by
    by_cases c : j = i
    · subst c
      rw [omSet_eq] at e
      cases e
      exact .inl ⟨rfl, rfl⟩
    · rw [omSet_ne c] at e
      exact .inr ⟨c, e⟩
  refine ⟨R.rh, by simp only [List.length_set]; exact R.len, fun j x e => ?_, fun a b c e1 e2 => ?_, fun a b c e => ?_, fun a c e => ?_, fun a c e => ?_, R.frm, R.exf, R.exr, R.nF, R.nr, fun a c e => ?_, fun j a e => ?_, fun q hq j e => ?_, R.mt⟩
  · have e : (z.s.set i (.own d))[j]? = some x := e
    by_cases c : j = i
    · subst c
      have hl : j < z.s.length := by
        have := (List.getElem?_eq_some_iff.mp e).1
        simpa using this
      rw [List.getElem?_set_self hl] at e
      cases e
      exact ⟨p, omSet_eq, List.getElem?_set_self (by rw [← R.len]; exact hl), r⟩
    · rw [List.getElem?_set_ne (Ne.symm c)] at e
      rw [List.getElem?_set_ne (Ne.symm c)]
      exact (R.sl j x e).mono (fun _ _ e => e) (List.prefix_refl _) (fun _ _ => rfl) (omSet_ne c)
  · rcases cs e1 with ⟨rfl, rfl⟩ | ⟨n1, q1⟩
    · rcases cs e2 with ⟨rfl, _⟩ | ⟨n2, q2⟩
      · rfl
      · exact absurd q2 (h.o b)
    · rcases cs e2 with ⟨rfl, rfl⟩ | ⟨n2, q2⟩
      · exact absurd q1 (h.o a)
      · exact R.oj a b c q1 q2
  · rcases cs e with ⟨rfl, rfl⟩ | ⟨n1, q1⟩
    · exact h.r b
    · exact R.orr a b c q1
  · rcases cs e with ⟨rfl, rfl⟩ | ⟨n1, q1⟩
    · exact h.f
    · exact R.off a c q1
  · rcases cs e with ⟨rfl, rfl⟩ | ⟨n1, q1⟩
    · exact h.t
    · exact R.oth a c q1
  · rcases cs e with ⟨rfl, rfl⟩ | ⟨n1, q1⟩
    · exact h.b
    · exact R.no a c q1
  · rcases cs e with ⟨rfl, rfl⟩ | ⟨n1, q1⟩
    · exact ⟨d, List.getElem?_set_self hi⟩
    · obtain ⟨d', q⟩ := R.ow j a q1
      exact ⟨d', by rw [← q]; exact List.getElem?_set_ne (Ne.symm n1)⟩
  · rcases cs e with ⟨_, q2⟩ | ⟨_, q2⟩
    · exact h.k q hq q2
    · exact R.to q hq j q2
/-- what a slot owns is nobody else's -/
theorem Rl.freshOwn (R : Rl K B F rho om z σ H) {i : Nat} (e : om i = some p) : Fresh K B F rho (omSet om i none) H p :=
  ⟨R.off i p e, fun n => R.orr i n p e, fun j q => (omSet_none q).1 (R.oj j i p (omSet_none q).2 e), R.no i p e, R.oth i p e, fun q hq c => R.to q hq i (by rw [c]; exact e)⟩
/-- a slot forgets -/
theorem Rl.forget (R : Rl K B F rho om z σ H) (i : Nat) : Rl K B F rho (omSet om i none) ⟨z.s.set i .no, z.h⟩ σ H := by
  refine ⟨R.rh, by simp only [List.length_set]; exact R.len, fun j x e => ?_, fun a b c e1 e2 => R.oj a b c (omSet_none e1).2 (omSet_none e2).2, fun a b c e => R.orr a b c (omSet_none e).2, fun a c e => R.off a c (omSet_none e).2, fun a c e => R.oth a c (omSet_none e).2,
    R.frm, R.exf, R.exr, R.nF, R.nr, fun a c e => R.no a c (omSet_none e).2, fun j a e => by
      obtain ⟨c, e⟩ := omSet_none e
      obtain ⟨d', q⟩ := R.ow j a e
      exact ⟨d', by rw [← q]; exact List.getElem?_set_ne (Ne.symm c)⟩, fun p hp j e => R.to p hp j (omSet_none e).2, R.mt⟩
  have e : (z.s.set i .no)[j]? = some x := e
  by_cases c : j = i
  · subst c
    have hl : j < z.s.length := by
      have := (List.getElem?_eq_some_iff.mp e).1
      simpa using this
    rw [List.getElem?_set_self hl] at e
    cases e
    trivial
  · rw [List.getElem?_set_ne (Ne.symm c)] at e
    exact (R.sl j x e).mono (fun _ _ e => e) (List.prefix_refl _) (fun _ _ => rfl) (omSet_ne c)
/-- a slot's object is changed -/
theorem Rl.mutOwn (R : Rl K B F rho om z σ H) {i : Nat} {d0 : D} (e : om i = some p) (hs : z.s[i]? = some (.own d0)) (r : Ob K F rho (upd H p o) p d) : Rl K B F rho om ⟨z.s.set i (.own d), z.h⟩ σ (upd H p o) := by
  have nr : ∀ (n : Nat) a, rho[n]? = some a → a ≠ p := fun n a q c => R.orr i n p e (by rw [← c]; exact q)
  have no : ∀ (j : Nat) a, ¬ j = i → om j = some a → a ≠ p := fun j a c q c2 => c (R.oj j i p (by rw [← c2]; exact q) e)
  refine ⟨R.rh.mono1 (fun _ _ e => e) (Same.upd_out R.rh.fro (R.off i p e)) (fun n a q => upd_ne (nr n a q)) R.rh.nf (R.rh.tb.mono (fun _ _ e => e) (fun q hq => upd_ne fun c => R.to q hq i (by rw [c]; exact e)) R.rh.tb.nf), by simp only [List.length_set]; exact R.len, fun j x q => ?_, R.oj, R.orr, R.off, fun j a q => ?_, fun a u q m => ?_, R.exf, R.exr, R.nF, R.nr, R.no, fun j a q => ?_, R.to, R.mt⟩
  · have q : (z.s.set i (.own d))[j]? = some x := q
    by_cases c : j = i
    · subst c
      have hl : j < z.s.length := (List.getElem?_eq_some_iff.mp hs).1
      rw [List.getElem?_set_self hl] at q
      cases q
      obtain ⟨a, e1, e2, _⟩ := R.sl j _ hs
      rw [e] at e1
      cases e1
      exact ⟨p, e, e2, r⟩
    · rw [List.getElem?_set_ne (Ne.symm c)] at q
      exact (R.sl j x q).mono (fun _ _ e => e) (List.prefix_refl _) (fun a h => upd_ne (no j a c h)) rfl
  · by_cases c : a = p
    · subst c
      exact ⟨_, upd_same, r.nt upd_same⟩
    · rw [upd_ne c]
      exact R.oth j a q
  · have c : a ≠ p := fun c => by
      subst c
      rcases R.no i a e with h | h
      · exact m h
      · rw [h] at q
        cases q
    rw [upd_ne c]
    exact R.frm a u q m
  · by_cases c : j = i
    · subst c
      exact ⟨d, List.getElem?_set_self (List.getElem?_eq_some_iff.mp hs).1⟩
    · obtain ⟨d', q2⟩ := R.ow j a q
      exact ⟨d', by rw [← q2]; exact List.getElem?_set_ne (Ne.symm c)⟩
/-- an object of the shared heap is changed -/
theorem Rl.mutRef (R : Rl K B F rho om z σ H) {n : Nat} (e : rho[n]? = some p) (r : Ob K F rho (upd H p o) p d) : Rl K B F rho om ⟨z.s, z.h.set n d⟩ σ (upd H p o) := by
  have no : ∀ (j : Nat) a, om j = some a → a ≠ p := fun j a q c => R.orr j n p (by rw [← c]; exact q) e
  have hn : n < z.h.length := by rw [R.rh.len]; exact (List.getElem?_eq_some_iff.mp e).1
  refine ⟨⟨Same.upd_out R.rh.fro (R.rh.nf n p e), by simp only [List.length_set]; exact R.rh.len, fun m d' a h1 h2 => ?_, R.rh.inj, R.rh.nf, R.rh.tb.mono (fun _ _ e => e) (fun q hq => upd_ne fun c => R.rh.tr q hq n (by rw [c]; exact e)) R.rh.tb.nf, R.rh.tr⟩, R.len, fun j x q => (R.sl j x q).mono (fun _ _ e => e) (List.prefix_refl _) (fun a h => upd_ne (no j a h)) rfl, R.oj, R.orr, R.off,
    fun j a q => by rw [upd_ne (no j a q)]; exact R.oth j a q, fun a u q m => ?_, R.exf, R.exr, R.nF, R.nr, R.no, R.ow, R.to, R.mt⟩
  · by_cases c : m = n
    · subst c
      rw [List.getElem?_set_self hn] at h1
      cases h1
      rw [e] at h2
      cases h2
      exact r
    · rw [List.getElem?_set_ne (Ne.symm c)] at h1
      have ca : a ≠ p := fun q => c (R.rh.inj m n p (by rw [← q]; exact h2) e)
      exact (R.rh.obs m d' a h1 h2).mono (fun _ _ e => e) (List.prefix_refl _) (upd_ne ca)
  · have c : a ≠ p := fun c => by
      subst c
      rcases R.nr n a e with h | h
      · exact m h
      · rw [h] at q
        cases q
    rw [upd_ne c]
    exact R.frm a u q m
/-- an object of nobody's joins the shared heap -/
theorem Rl.share (R : Rl K B F rho om z σ H) (h : Fresh K B F rho om H p) (r : Ob K F rho H p d) : Rl K B F (rho ++ [p]) om ⟨z.s, z.h ++ [d]⟩ σ H ∧ (rho ++ [p])[z.h.length]? = some p := by
  have px : rho <+: rho ++ [p] := List.prefix_append _ _
  have last : (rho ++ [p])[z.h.length]? = some p := by rw [R.rh.len, List.getElem?_append_right (Nat.le_refl _), Nat.sub_self]; rfl
  have cs : ∀ {n : Nat} {a : Addr}, (rho ++ [p])[n]? = some a → rho[n]? = some a ∨ (n = rho.length ∧ a = p) := fun {n a} e => by
    rcases Nat.lt_trichotomy n rho.length with c | c | c
    · rw [List.getElem?_append_left c] at e
      exact .inl e
    · subst c
      rw [List.getElem?_append_right (Nat.le_refl _), Nat.sub_self] at e
      exact .inr ⟨rfl, (Option.some.inj e).symm⟩
    · rw [List.getElem?_append_right (Nat.le_of_lt c)] at e
      have : 1 ≤ n - rho.length := by omega
      rw [List.getElem?_eq_none (by simpa using this)] at e
      cases e
  refine ⟨⟨⟨R.rh.fro, by simp only [List.length_append, List.length_singleton]; rw [R.rh.len], fun n d' a h1 h2 => ?_, fun i j a h1 h2 => ?_, fun n a h1 => ?_, R.rh.tb, fun q hq n e => ?_⟩, R.len, fun j x q => (R.sl j x q).mono (fun _ _ e => e) px (fun _ _ => rfl) rfl, R.oj, fun i n a q e => ?_, R.off, R.oth, R.frm, R.exf, R.exr.trans px, R.nF, fun n a q => ?_, R.no, R.ow, R.to, R.mt⟩, last⟩
  · rcases cs h2 with q | ⟨q, rfl⟩
    · have hl : n < z.h.length := by rw [R.rh.len]; exact (List.getElem?_eq_some_iff.mp q).1
      rw [List.getElem?_append_left hl] at h1
      exact (R.rh.obs n d' a h1 q).mono (fun _ _ e => e) px rfl
    · subst q
      rw [← R.rh.len, List.getElem?_append_right (Nat.le_refl _), Nat.sub_self] at h1
      cases (show some d = some d' from h1)
      exact r.mono (fun _ _ e => e) px rfl
  · rcases cs h1 with q | ⟨q, rfl⟩
    · rcases cs h2 with q2 | ⟨q2, rfl⟩
      · exact R.rh.inj i j a q q2
      · exact absurd q (h.r i)
    · rcases cs h2 with q2 | ⟨q2, _⟩
      · exact absurd q2 (h.r j)
      · omega
  · rcases cs h1 with q | ⟨_, rfl⟩
    · exact R.rh.nf n a q
    · exact h.f
  · rcases cs e with q2 | ⟨_, q2⟩
    · exact R.rh.tr q hq n q2
    · exact h.k q hq q2
  · rcases cs e with q2 | ⟨_, rfl⟩
    · exact R.orr i n a q q2
    · exact h.o i q
  · rcases cs q with q2 | ⟨_, rfl⟩
    · exact R.nr n a q2
    · exact h.b
/-- the heap as it stands, as a base -/
def reb (K : Kx) (F : Hp) (rho : List Addr) (om : Nat → Option Addr) (H : Hp) : Bs := ⟨H, F, rho, fun a => ((∃ i : Nat, om i = some a) ∨ ∃ n : Nat, rho[n]? = some a) ∨ ∃ p ∈ K.tb.t, p.1 = a⟩
theorem Rl.reb (R : Rl K B F rho om z σ H) : Rl K (reb K F rho om H) F rho om z σ H :=
  ⟨R.rh, R.len, R.sl, R.oj, R.orr, R.off, R.oth, fun _ _ e _ => e, fun _ _ e => e, List.prefix_refl _, fun _ _ _ _ e _ => e, fun n a e => .inl (.inl (.inr ⟨n, e⟩)), fun i a e => .inl (.inl (.inl ⟨i, e⟩)), R.ow, R.to, fun p hp => .inr ⟨p, hp, rfl⟩⟩
/-- back to the base before -/
theorem Rl.back (R : Rl K B F rho om z σ H) (S : Rl K (Mi.reb K F rho om H) F' rho' om' z' σ' H') : Rl K B F' rho' om' z' σ' H' := by
  have notmu : ∀ a u, B.H0 a = some u → ¬ B.mu a → ¬ (((∃ i : Nat, om i = some a) ∨ ∃ n : Nat, rho[n]? = some a) ∨ ∃ p ∈ K.tb.t, p.1 = a) := fun a u e m q => by
    rcases q with (⟨i, q⟩ | ⟨n, q⟩) | ⟨p, hp, rfl⟩
    · rcases R.no i a q with h | h
      · exact m h
      · rw [h] at e
        cases e
    · rcases R.nr n a q with h | h
      · exact m h
      · rw [h] at e
        cases e
    · exact m (R.mt p hp)
  have old : ∀ a, (Mi.reb K F rho om H).mu a ∨ (Mi.reb K F rho om H).H0 a = none → B.mu a ∨ B.H0 a = none := fun a q => by
    rcases q with ((⟨i, q⟩ | ⟨n, q⟩) | ⟨p, hp, rfl⟩) | q
    · exact R.no i a q
    · exact R.nr n a q
    · exact .inl (R.mt p hp)
    · exact (R.fresh0 q).symm
  refine ⟨S.rh, S.len, S.sl, S.oj, S.orr, S.off, S.oth, fun a u e m => S.frm a u (R.frm a u e m) (notmu a u e m), R.exf.trans S.exf, R.exr.trans S.exr, fun a u e1 nt e2 m => S.nF a u (R.frm a u e1 m) nt (R.nF a u e1 nt e2 m) (notmu a u e1 m), fun n a q => old a (S.nr n a q), fun i a q => old a (S.no i a q), S.ow, S.to, R.mt⟩
/-- through a part of an evaluation an object of nobody's stays as it was -/
theorem Fresh.through (f : Fresh K B F rho om H p) (S : Rl K (Mi.reb K F rho om H) F' rho' om' z' σ' H') (hb : ∀ i, om' i = some p → om i = some p) : Fresh K B F' rho' om' H' p ∧ H' p = H p := by
  obtain ⟨u, hu, nt⟩ := f.t
  have nm : ¬ (Mi.reb K F rho om H).mu p := fun q => by
    rcases q with (⟨i, q⟩ | ⟨n, q⟩) | ⟨q, hq, c⟩
    · exact f.o i q
    · exact f.r n q
    · exact f.k q hq c
  have e := S.frm p u hu nm
  refine ⟨⟨S.nF p u hu nt f.f nm, fun n q => ?_, fun i q => f.o i (hb i q), f.b, ⟨u, e, nt⟩, f.k⟩, e.trans hu.symm⟩
  rcases S.nr n p q with q | q
  · exact nm q
  · have q : H p = none := q
    rw [hu] at q
    cases q
end

/-! ### calls -/
/-- what a def does: the arguments and the shared heap go to a value and a heap, or it is not told -/
abbrev Fn := List D → List D → Option (D × List D)
def spM (n : Nat) (K : Kx) (mf : Fn) : Sp := fun vs H Q _ => vs.length = n ∧ ∃ (F : Hp) (rho : List Addr) (h : List D) (ds : List D), Rh K F rho h H ∧ Rps K F rho ds vs ∧ ∃ (d : D) (h' : List D), mf ds h = some (d, h') ∧
  ∀ (F' : Hp) (rho' : List Addr) (H' : Hp) (v : V), Same F F' → rho <+: rho' → Rh K F' rho' h' H' → (∀ a o, H a = some o → (∀ n : Nat, ¬ rho[n]? = some a) → (∀ p ∈ K.tb.t, ¬ p.1 = a) → H' a = some o) →
    (∀ a o, H a = some o → NT o → F a = none → (∀ n : Nat, ¬ rho[n]? = some a) → F' a = none) → (∀ (n : Nat) a, rho'[n]? = some a → (∃ m : Nat, rho[m]? = some a) ∨ H a = none) → Rp K F' rho' d v → Q v H'
section
variable {K : Kx} {B : Bs} {F F' : Hp} {rho rho' : List Addr} {om om' : Nat → Option Addr} {z z' : Z} {σ σ' : L2.St} {H H' : Hp} {a p : Addr} {d : D} {v : V} {o : HO}
/-- behind a call -/
theorem Rl.called {h' : List D} (R : Rl K B F rho om z σ H) (e1 : Same F F') (e2 : rho <+: rho') (r : Rh K F' rho' h' H') (fr : ∀ a o, H a = some o → (∀ n : Nat, ¬ rho[n]? = some a) → (∀ p ∈ K.tb.t, ¬ p.1 = a) → H' a = some o)
    (nf : ∀ a o, H a = some o → NT o → F a = none → (∀ n : Nat, ¬ rho[n]? = some a) → F' a = none) (nr : ∀ (n : Nat) a, rho'[n]? = some a → (∃ m : Nat, rho[m]? = some a) ∨ H a = none) : Rl K B F' rho' om ⟨z.s, h'⟩ σ H' := by
  have keep : ∀ (i : Nat) a, om i = some a → H' a = H a := fun i a e => by
    obtain ⟨u, hu, _⟩ := R.oth i a e
    rw [fr a u hu (fun n => R.orr i n a e) (fun p hp c => R.to p hp i (by rw [c]; exact e)), hu]
  have nrho : ∀ a u, B.H0 a = some u → ¬ B.mu a → ∀ n : Nat, ¬ rho[n]? = some a := fun a u e m n q => by
    rcases R.nr n a q with h | h
    · exact m h
    · rw [h] at e
      cases e
  refine ⟨r, R.len, fun i x q => (R.sl i x q).mono e1 e2 (keep i) rfl, R.oj, fun i n a q q2 => ?_, fun i a q => ?_, fun i a q => by rw [keep i a q]; exact R.oth i a q, fun a u q m => fr a u (R.frm a u q m) (nrho a u q m) (fun p hp c => m (by rw [← c]; exact R.mt p hp)), R.exf.trans e1, R.exr.trans e2,
    fun a u q1 nt q2 m => nf a u (R.frm a u q1 m) nt (R.nF a u q1 nt q2 m) (nrho a u q1 m), fun n a q => ?_, R.no, R.ow, R.to, R.mt⟩
  · rcases nr n a q2 with ⟨m, h⟩ | h
    · exact R.orr i m a q h
    · obtain ⟨u, hu, _⟩ := R.oth i a q
      rw [h] at hu
      cases hu
  · obtain ⟨u, hu, nt⟩ := R.oth i a q
    exact nf a u hu nt (R.off i a q) fun n => R.orr i n a q
  · rcases nr n a q with ⟨m, h⟩ | h
    · exact R.nr m a h
    · exact (R.fresh0 h).symm
/-- a frame's start -/
def slots (n : Nat) (ds : List D) : List Sl := ds.map Sl.val ++ List.replicate (n - ds.length) Sl.no
theorem slots_get {n : Nat} {ds : List D} {i : Nat} {x : Sl} (h : (slots n ds)[i]? = some x) : x = .no ∨ ∃ d, ds[i]? = some d ∧ x = .val d := by
  unfold slots at h
  rcases Nat.lt_or_ge i (ds.map Sl.val).length with c | c
  · rw [List.getElem?_append_left c, List.getElem?_map] at h
    cases q : ds[i]? with
    | none =>
      rw [q] at h
      cases h
    | some d =>
      rw [q] at h
      exact .inr ⟨d, rfl, (Option.some.inj h).symm⟩
  · rw [List.getElem?_append_right c, List.getElem?_replicate] at h
    split at h
    · exact .inl (Option.some.inj h).symm
    · cases h
theorem start_get {N : List Str} {vs : List V} {i : Nat} {v : V} (h : vs[i]? = some v) : (L2.start N vs)[i]? = some (some v) := by
  unfold L2.start
  have hl := (List.getElem?_eq_some_iff.mp h).1
  rw [List.getElem?_append_left (by simpa using hl), List.getElem?_map, h]
  rfl
theorem Rl.begin {h : List D} {ds : List D} {vs : List V} {N : List Str} (r : Rh K F rho h H) (q : Rps K F rho ds vs) (hl : vs.length ≤ N.length) :
    Rl K ⟨H, F, rho, fun a => (∃ n : Nat, rho[n]? = some a) ∨ ∃ p ∈ K.tb.t, p.1 = a⟩ F rho (fun _ => none) ⟨slots N.length ds, h⟩ (L2.start N vs) H := by
  refine ⟨r, ?_, fun i x e => ?_, (fun _ _ _ e => nomatch e), (fun _ _ _ e => nomatch e), (fun _ _ e => nomatch e), (fun _ _ e => nomatch e), fun _ _ e _ => e, fun _ _ e => e, List.prefix_refl _, fun _ _ _ _ e _ => e, fun n a e => .inl (.inl ⟨n, e⟩), (fun _ _ e => nomatch e), (fun _ _ e => nomatch e), (fun _ _ _ e => nomatch e), fun p hp => .inr ⟨p, hp, rfl⟩⟩
  · unfold slots L2.start
    rw [List.length_append, List.length_append, List.length_map, List.length_map, List.length_replicate, List.length_replicate, q.length]
  · rcases slots_get e with rfl | ⟨d, h1, rfl⟩
    · trivial
    · obtain ⟨v, h2, r2⟩ := q.get h1
      exact ⟨v, start_get h2, r2⟩
end
end Mi

set_option Elab.async false
set_option linter.all false
set_option maxRecDepth 100000
/-! Mi, part C: the meanings of expressions, tests, statements. -/
namespace Mi
open PySem PySem.Spec PyProof.Rows L2

abbrev M (α : Type) := Z → Option (α × Z)
def bnd {α β : Type} (a : M α) (f : α → M β) : M β := fun z => match a z with
  | none => none
  | some (x, z1) => f x z1
def ret {α : Type} (x : α) : M α := fun z => some (x, z)
def isPure : D → Bool
  | .own _ => false
  | _ => true
/-- the items of a list or a tuple (true: a tuple) -/
def cont (d : D) (z : Z) : Option (Bool × List D) := match d with
  | .lst xs => some (false, xs)
  | .tup xs => some (true, xs)
  | .kt xs => some (true, xs)
  | .scr xs => some (false, xs)
  | .ref n => match z.h[n]? with
    | some (.lst xs) => some (false, xs)
    | _ => none
  | .own i => match z.s[i]? with
    | some (.own (.lst xs)) => some (false, xs)
    | _ => none
  | _ => none
/-- lists stay below this length -/
def szl : Nat := 1000000

/-! ### expressions -/
namespace E
def var (i : Nat) : M D := fun z => match z.s[i]? with
  | some (.val d) => some (d, z)
  | some (.own _) => some (.own i, z)
  | _ => none
def c (d : D) : M D := ret d
/-- a two-place operation that changes nothing -/
def op (f : D → D → Z → Option D) (a b : M D) : M D := bnd a fun x => bnd b fun y => fun z => match f x y z with
  | none => none
  | some d => some (d, z)
def un (f : D → Z → Option D) (a : M D) : M D := bnd a fun x => fun z => match f x z with
  | none => none
  | some d => some (d, z)
def args : List (M D) → M (List D)
  | [] => ret []
  | a :: as => bnd a fun x => bnd (args as) fun xs => if isPure x = true then ret (x :: xs) else fun _ => none
def tup (as : List (M D)) : M D := bnd (args as) fun xs => ret (.tup xs)
/-- a new list that nobody changes -/
def frz (m : M (List D)) : M D := bnd m fun xs => ret (.lst xs)
/-- a new list of the shared heap -/
def shr (m : M (List D)) : M D := bnd m fun xs z => some (.ref z.h.length, ⟨z.s, z.h ++ [.lst xs]⟩)
def call (mf : Fn) (as : List (M D)) : M D := bnd (args as) fun xs z => match mf xs z.h with
  | none => none
  | some (d, h') => some (d, ⟨z.s, h'⟩)
/-- a built-in's call by values -/
def blt (f : List D → Z → Option D) (as : List (M D)) : M D := fun z => match as with
  | [] => none
  | [a] => bnd a (fun x => fun z => match f [x] z with
    | none => none
    | some d => some (d, z)) z
  | _ => bnd (args as) (fun xs z => match f xs z with
    | none => none
    | some d => some (d, z)) z
def ite (t : M Bool) (a b : M D) : M D := bnd t fun k => if k = true then a else b
def and (a b : M D) : M D := bnd a fun x => match x with
  | .bl true => b
  | .bl false => ret (.bl false)
  | _ => fun _ => none
def or (a b : M D) : M D := bnd a fun x => match x with
  | .bl false => b
  | .bl true => ret (.bl true)
  | _ => fun _ => none
def not (a : M D) : M D := bnd a fun x => match x with
  | .bl k => ret (.bl (!k))
  | _ => fun _ => none
/-- a < b < c by two operations -/
def chain (f g : D → D → Z → Option D) (a b c : M D) : M D := bnd a fun x => bnd b fun y => fun z => match f x y z with
  | some (.bl true) => bnd c (fun w z => match g y w z with
    | some (.bl k) => some (.bl k, z)
    | _ => none) z
  | some (.bl false) => some (.bl false, z)
  | _ => none
def isN (a : M D) : M D := bnd a fun x => match x with
  | .non => ret (.bl true)
  | _ => ret (.bl false)
def notN (a : M D) : M D := bnd a fun x => match x with
  | .non => ret (.bl false)
  | _ => ret (.bl true)
/-- xs.m(..) of a list that is changed: f takes the items and the arguments to a value and the items -/
def chgF (f : List D → List D → Option (D × List D)) (x : D) (xs : List D) : M D := fun z => match x with
  | .own i => match z.s[i]? with
    | some (.own (.lst ds)) => match f ds xs with
      | none => none
      | some (d, ds') => some (d, ⟨z.s.set i (.own (.lst ds')), z.h⟩)
    | _ => none
  | .ref n => match z.h[n]? with
    | some (.lst ds) => match f ds xs with
      | none => none
      | some (d, ds') => some (d, ⟨z.s, z.h.set n (.lst ds')⟩)
    | _ => none
  | _ => none
def isLst (x : D) (z : Z) : Bool := match x with
  | .own _ => (cont x z).isSome
  | .ref _ => (cont x z).isSome
  | _ => false
def chg (f : List D → List D → Option (D × List D)) (a : M D) (as : List (M D)) : M D := bnd a fun x => fun z => if isLst x z = true then bnd (args as) (fun xs => chgF f x xs) z else none
end E

/-! ### operations -/
def bigN : Nat := 4096
/-- an int of a size that products take -/
def smI (i : Int) : Prop := i.natAbs < 2 ^ bigN
namespace O
def add : D → D → Z → Option D
  | .int i, .int j, _ => some (.int (i + j))
  | _, _, _ => none
def sub : D → D → Z → Option D
  | .int i, .int j, _ => some (.int (i - j))
  | _, _, _ => none
open Classical in
noncomputable def mul : D → D → Z → Option D
  | .int i, .int j, _ => if smI i ∧ smI j then some (.int (i * j)) else none
  | _, _, _ => none
open Classical in
noncomputable def div : D → D → Z → Option D
  | .int i, .int j, _ => if 0 < j ∧ smI j then some (.int (i / j)) else none
  | _, _, _ => none
def mod : D → D → Z → Option D
  | .int i, .int j, _ => if 0 < j then some (.int (i % j)) else none
  | _, _, _ => none
def lt : D → D → Z → Option D
  | .int i, .int j, _ => some (.bl (decide (i < j)))
  | _, _, _ => none
def le : D → D → Z → Option D
  | .int i, .int j, _ => some (.bl (decide (i ≤ j)))
  | _, _, _ => none
def gt : D → D → Z → Option D
  | .int i, .int j, _ => some (.bl (decide (j < i)))
  | _, _, _ => none
def ge : D → D → Z → Option D
  | .int i, .int j, _ => some (.bl (decide (j ≤ i)))
  | _, _, _ => none
def neg : D → Z → Option D
  | .int i, _ => some (.int (-i))
  | _, _ => none
def ix (x y : D) (z : Z) : Option D := match cont x z, y with
  | some (_, ds), .int i => atI ds i
  | _, _ => none
mutual
def toP : D → Option PyData
  | .non => some .none
  | .bl b => some (.bool b)
  | .int i => some (.int i)
  | .str x => some (.str x)
  | .tup xs => (toPs xs).map .tuple
  | .kt xs => (toPs xs).map .tuple
  | .lst xs => (toPs xs).map .list
  | .scr xs => (toPs xs).map .list
  | _ => none
def toPs : List D → Option (List PyData)
  | [] => some []
  | x :: xs => match toP x, toPs xs with
    | some a, some as => some (a :: as)
    | _, _ => none
end
/-- a list that may change, as it stands -/
def snap (x : D) (z : Z) : D := match x with
  | .own _ => match cont x z with
    | some (_, ds) => .lst ds
    | none => .own 0
  | .ref _ => match cont x z with
    | some (_, ds) => .lst ds
    | none => .own 0
  | _ => x
def eqD (x y : D) (z : Z) : Option Bool := match toP (snap x z), toP (snap y z) with
  | some a, some b => if SeqAt.shaped a = true ∧ SeqAt.shaped b = true then some (PyData.eqv a b) else none
  | _, _ => none
def eqP (x y : D) (z : Z) : Option Bool := match x, y with
  | .str a, .str b => some (decide (a = b))
  | x, y => eqD x y z
def eq (x y : D) (z : Z) : Option D := (eqP x y z).map .bl
def ne (x y : D) (z : Z) : Option D := (eqP x y z).map fun k => .bl (!k)
def flat : D → Bool
  | .non => true
  | .bl _ => true
  | .int _ => true
  | .str _ => true
  | _ => false
def eqF : D → D → Bool
  | .non, .non => true
  | .bl a, .bl b => a == b
  | .bl a, .int b => (if a then 1 else 0) == b
  | .int a, .bl b => a == (if b then 1 else 0)
  | .int a, .int b => a == b
  | .str a, .str b => a == b
  | _, _ => false
def isIn (x y : D) (z : Z) : Option D := match cont y z with
  | some (_, ds) => if flat x = true ∧ ds.all flat = true then some (.bl (ds.any fun y => eqF y x)) else none
  | none => none
def notIn (x y : D) (z : Z) : Option D := match cont y z with
  | some (_, ds) => if flat x = true ∧ ds.all flat = true then some (.bl (!ds.any fun y => eqF y x)) else none
  | none => none
/-- truth -/
def tru (x : D) (z : Z) : Option Bool := match x with
  | .non => some false
  | .bl b => some b
  | .int i => some (i != 0)
  | _ => match cont x z with
    | some (_, ds) => some (!ds.isEmpty)
    | none => none
end O

/-! ### built-ins by values -/
namespace F
def len : List D → Z → Option D
  | [x], z => match cont x z with
    | some (_, ds) => some (.int ds.length)
    | none => none
  | _, _ => none
def abs : List D → Z → Option D
  | [.int i], _ => some (.int (if i < 0 then -i else i))
  | _, _ => none
def max2 : List D → Z → Option D
  | [.int i, .int j], _ => some (.int (if j > i then j else i))
  | _, _ => none
def min2 : List D → Z → Option D
  | [.int i, .int j], _ => some (.int (if j < i then j else i))
  | _, _ => none
def int1 : List D → Z → Option D
  | [.int i], _ => some (.int i)
  | _, _ => none
def tuple : List D → Z → Option D
  | [.kt _], _ => none
  | [x], z => match cont x z with
    | some (_, ds) => some (.tup ds)
    | none => none
  | _, _ => none
def ofInts : List D → Option (List Int)
  | [] => some []
  | .int i :: r => (ofInts r).map (i :: ·)
  | _ :: _ => none
def ofBools : List D → Option (List Bool)
  | [] => some []
  | .bl i :: r => (ofBools r).map (i :: ·)
  | _ :: _ => none
/-- of a list (no tuple) -/
def lstI (x : D) (z : Z) : Option (List Int) := match cont x z with
  | some (false, ds) => ofInts ds
  | _ => none
def lstB (x : D) (z : Z) : Option (List Bool) := match cont x z with
  | some (false, ds) => ofBools ds
  | _ => none
def sum : List D → Z → Option D
  | [x], z => (lstI x z).map fun ns => .int ns.sum
  | _, _ => none
def maxL : List Int → Option Int
  | [] => none
  | x :: xs => some (xs.foldl (fun a b => if a < b then b else a) x)
def minL : List Int → Option Int
  | [] => none
  | x :: xs => some (xs.foldl (fun a b => if b < a then b else a) x)
def max1 : List D → Z → Option D
  | [x], z => match lstI x z with
    | some ns => (maxL ns).map .int
    | none => none
  | _, _ => none
def min1 : List D → Z → Option D
  | [x], z => match lstI x z with
    | some ns => (minL ns).map .int
    | none => none
  | _, _ => none
def all1 : List D → Z → Option D
  | [x], z => (lstB x z).map fun bs => .bl (bs.all id)
  | _, _ => none
def any1 : List D → Z → Option D
  | [x], z => (lstB x z).map fun bs => .bl (bs.any id)
  | _, _ => none
/-- isinstance(x, T) of a built-in class T: the class's name given -/
def tyName : D → Z → Option String
  | .non, _ => some "NoneType"
  | .bl _, _ => some "bool"
  | .int _, _ => some "int"
  | .str _, _ => some "str"
  | .tup _, _ => some "tuple"
  | .kt _, _ => some "tuple"
  | .lst _, _ => some "list"
  | .ref n, z => match z.h[n]? with
    | some (.lst _) => some "list"
    | _ => none
  | .own i, z => match z.s[i]? with
    | some (.own (.lst _)) => some "list"
    | _ => none
  | _, _ => none
end F

/-! ### changes of a list -/
namespace U
def append (ds xs : List D) : Option (D × List D) := match xs with
  | [x] => if ds.length < szl then some (.non, ds ++ [x]) else none
  | _ => none
def pop (ds xs : List D) : Option (D × List D) := match xs with
  | [] => match ds[ds.length - 1]? with
    | some d => some (d, ds.dropLast)
    | none => none
  | _ => none
def popAt (ds xs : List D) : Option (D × List D) := match xs with
  | [.int i] => if -(2 ^ 63) ≤ i ∧ i < 2 ^ 63 then match ixN ds.length i with
    | some k => match ds[k]? with
      | some d => some (d, ds.eraseIdx k)
      | none => none
    | none => none else none
  | _ => none
/-- extend by a list that stands still -/
def extend (ds xs : List D) : Option (D × List D) := match xs with
  | [.lst ys] => if ds.length + ys.length < szl then some (.non, ds ++ ys) else none
  | _ => none
def setAt (ds : List D) (i : Int) (x : D) : Option (List D) := (ixN ds.length i).map fun k => ds.set k x
end U

/-! ### new lists -/
namespace N
def disp (as : List (M D)) : M (List D) := E.args as
def ofSeq (a : M D) : M (List D) := bnd a fun x z => match cont x z with
  | some (_, ds) => some (ds, z)
  | none => none
def cutI (n d : Nat) (o : Option Int) : Nat := HT.sIx n d o
def cutL {α : Type} (ds : List α) (lo hi : Option Int) : List α := (ds.drop (HT.sIx ds.length 0 lo)).take (HT.sIx ds.length ds.length hi - HT.sIx ds.length 0 lo)
def part (a : Option (M D)) : M (Option Int) := match a with
  | none => ret none
  | some m => bnd m fun x => match x with
    | .int i => ret (some i)
    | _ => fun _ => none
/-- xs[lo:hi] of a list -/
def slice (a : M D) (lo hi : Option (M D)) : M (List D) := bnd a fun x => bnd (part lo) fun l => bnd (part hi) fun u z => match cont x z with
  | some (false, ds) => some (cutL ds l u, z)
  | _ => none
/-- xs + ys of lists -/
def cat (a b : M D) : M (List D) := bnd a fun x => bnd b fun y z => match x, y with
  | .scr _, _ => none
  | _, .scr _ => none
  | _, _ => match cont x z, cont y z with
    | some (false, ds), some (false, es) => if ds.length + es.length < szl then some (ds ++ es, z) else none
    | _, _ => none
end N

/-! ### tests -/
namespace T
def val (a : M D) : M Bool := bnd a fun x => match x with
  | .bl k => ret k
  | _ => fun _ => none
def tru (a : M D) : M Bool := bnd a fun x z => match O.tru x z with
  | some k => some (k, z)
  | none => none
def and (a b : M Bool) : M Bool := bnd a fun k => if k = true then b else ret false
def or (a b : M Bool) : M Bool := bnd a fun k => if k = true then ret true else b
def not (a : M Bool) : M Bool := bnd a fun k => ret (!k)
end T

/-! ### targets -/
/-- a target: which slots it sets, and how -/
structure G where
  ws : List Nat
  run : D → Z → Option Z
namespace G
def nm (i : Nat) : G := ⟨[i], fun d z => some ⟨z.s.set i (.val d), z.h⟩⟩
def runs : List G → List D → Z → Option Z
  | [], [], z => some z
  | g :: gs, d :: ds, z => match g.run d z with
    | none => none
    | some z1 => runs gs ds z1
  | _, _, _ => none
def tp (gs : List G) : G := ⟨gs.flatMap G.ws, fun d z => match d with
  | .tup ds => runs gs ds z
  | .kt ds => runs gs ds z
  | _ => none⟩
/-- .. of a list -/
def tl (gs : List G) : G := ⟨gs.flatMap G.ws, fun d z => match d with
  | .lst ds => runs gs ds z
  | _ => none⟩
end G

/-! ### what is walked -/
structure It where
  items : List D
  chk : Option D
open Classical in
noncomputable def It.ok (it : It) (z : Z) : Bool := match it.chk with
  | none => true
  | some d => if ∃ b, cont d z = some (b, it.items) then true else false
namespace I
def seq (a : M D) : M It := bnd a fun x z => match x with
  | .lst xs => some (⟨xs, none⟩, z)
  | .tup xs => some (⟨xs, none⟩, z)
  | .kt xs => some (⟨xs, none⟩, z)
  | .scr xs => some (⟨xs, none⟩, z)
  | .ref _ => match cont x z with
    | some (_, xs) => some (⟨xs, some x⟩, z)
    | none => none
  | _ => none
/-- in a comprehension a slot's own list, too -/
def seqF (x : D) (z : Z) : Option (It × Z) := match x with
  | .lst xs => some (⟨xs, none⟩, z)
  | .tup xs => some (⟨xs, none⟩, z)
  | .kt xs => some (⟨xs, none⟩, z)
  | .scr xs => some (⟨xs, none⟩, z)
  | .ref _ => match cont x z with
    | some (_, xs) => some (⟨xs, some x⟩, z)
    | none => none
  | .own _ => match cont x z with
    | some (_, xs) => some (⟨xs, some x⟩, z)
    | none => none
  | _ => none
def seqC (a : M D) : M It := bnd a seqF
def irng (lo : Int) (n : Nat) : List D := (List.range n).map fun i => D.int (lo + (i : Nat))
def rng1 (a : M D) : M It := bnd a fun x => match x with
  | .int n => if -(2 ^ 62) ≤ n ∧ n < 2 ^ 62 then ret ⟨irng 0 n.toNat, none⟩ else fun _ => none
  | _ => fun _ => none
def rng2 (a b : M D) : M It := bnd a fun x => bnd b fun y => match x, y with
  | .int i, .int j => if (-(2 ^ 62) ≤ i ∧ i < 2 ^ 62) ∧ -(2 ^ 62) ≤ j ∧ j < 2 ^ 62 then ret ⟨irng i (j - i).toNat, none⟩ else fun _ => none
  | _, _ => fun _ => none
end I

/-! ### comprehensions -/
namespace N
def wipe (s : List Sl) : List Nat → List Sl
  | [] => s
  | v :: vs => (wipe s vs).set v .no
def rest (s0 s : List Sl) : List Nat → List Sl
  | [] => s
  | v :: vs => match s0[v]? with
    | some x => (rest s0 s vs).set v x
    | none => rest s0 s vs
def isOwn : Option Sl → Bool
  | some (.own _) => true
  | _ => false
noncomputable def loop (it : It) (g : G) (vs : List Nat) (tt : M Bool) (te : M D) : List D → List D → Z → Option (List D × Z)
  | [], acc, z => if it.ok z = true then some (acc, z) else none
  | d :: ds, acc, z => if it.ok z = true then match g.run d z with
    | none => none
    | some z1 => match tt z1 with
      | none => none
      | some (false, z2) => loop it g vs tt te ds acc ⟨wipe z2.s vs, z2.h⟩
      | some (true, z2) => match te z2 with
        | none => none
        | some (x, z3) => if isPure x = true then loop it g vs tt te ds (acc ++ [x]) ⟨wipe z3.s vs, z3.h⟩ else none
    else none
noncomputable def comp (mi : M It) (g : G) (vs : List Nat) (tt : M Bool) (te : M D) : M (List D) := bnd mi fun it z =>
  if it.items.length ≤ szl ∧ (vs.all fun v => !isOwn z.s[v]?) = true then match loop it g vs tt te it.items [] ⟨wipe z.s vs, z.h⟩ with
    | none => none
    | some (acc, z1) => some (acc, ⟨rest z.s z1.s vs, z1.h⟩)
  else none
end N

/-! ### statements -/
inductive Fl where
  | nx | bk | ct | rt (d : D)
abbrev C := Z → Option (Fl × Z)
namespace C
def skip : C := fun z => some (.nx, z)
def seq (a b : C) : C := fun z => match a z with
  | some (.nx, z1) => b z1
  | r => r
def set (i : Nat) (e : M D) : C := bnd e fun d z => if isPure d = true then some (.nx, ⟨z.s.set i (.val d), z.h⟩) else none
/-- target = e -/
def asg (g : G) (e : M D) : C := bnd e fun d z => if isPure d = true then match g.run d z with
    | some z1 => some (.nx, z1)
    | none => none
  else none
/-- the slot owns the new list -/
def own (i : Nat) (e : M (List D)) : C := bnd e fun ds z => if i < z.s.length then some (.nx, ⟨z.s.set i (.own (.lst ds)), z.h⟩) else none
/-- the slot's list is not changed any more -/
def frz (i : Nat) : C := fun z => match z.s[i]? with
  | some (.own (.lst ds)) => some (.nx, ⟨z.s.set i (.val (.lst ds)), z.h⟩)
  | _ => none
def drop (e : M D) : C := bnd e fun _ z => some (.nx, z)
def ret (e : M D) : C := bnd e fun d z => match d with
  | .own i => match z.s[i]? with
    | some (.own (.lst ds)) => some (.rt (.lst ds), ⟨z.s.set i .no, z.h⟩)
    | _ => none
  | _ => some (.rt d, z)
/-- a slot's own list goes to the shared heap -/
def retS (e : M D) : C := bnd e fun d z => match d with
  | .own i => match z.s[i]? with
    | some (.own (.lst ds)) => some (.rt (.ref z.h.length), ⟨z.s.set i .no, z.h ++ [.lst ds]⟩)
    | _ => none
  | _ => none
def retN : C := fun z => some (.rt .non, z)
def ite (t : M Bool) (a b : C) : C := bnd t fun k => if k = true then a else b
def brk : C := fun z => some (.bk, z)
def cnt : C := fun z => some (.ct, z)
/-- a[i] = e, a list that may change -/
def setIx (a i e : M D) : C := bnd e fun d => bnd a fun x => bnd i fun y z => if isPure d = true then match x, y with
    | .own k, .int j => match z.s[k]? with
      | some (.own (.lst ds)) => match U.setAt ds j d with
        | some ds' => some (.nx, ⟨z.s.set k (.own (.lst ds')), z.h⟩)
        | none => none
      | _ => none
    | .ref n, .int j => match z.h[n]? with
      | some (.lst ds) => match U.setAt ds j d with
        | some ds' => some (.nx, ⟨z.s, z.h.set n (.lst ds')⟩)
        | none => none
      | _ => none
    | _, _ => none
  else none
/-- x op= e -/
def aug (i : Nat) (f : D → D → Z → Option D) (e : M D) : C := fun z => match z.s[i]? with
  | some (.val x) => bnd e (fun y z => match f x y z with
    | some d => if isPure d = true then some (.nx, ⟨z.s.set i (.val d), z.h⟩) else none
    | none => none) z
  | _ => none
noncomputable def loop (it : It) (g : G) (b : C) : List D → C
  | [] => fun z => if it.ok z = true then some (.nx, z) else none
  | d :: ds => fun z => if it.ok z = true then match g.run d z with
    | none => none
    | some z1 => match b z1 with
      | none => none
      | some (.nx, z2) => loop it g b ds z2
      | some (.ct, z2) => loop it g b ds z2
      | some (.bk, z2) => some (.nx, z2)
      | some (.rt d, z2) => some (.rt d, z2)
    else none
noncomputable def for_ (mi : M It) (g : G) (b : C) : C := bnd mi fun it => loop it g b it.items
def whl (t : M Bool) (b : C) : C := fun z => match t z with
  | none => none
  | some (false, z1) => some (.nx, z1)
  | some (true, z1) => match b z1 with
    | none => none
    | some (.nx, z2) => whl t b z2
    | some (.ct, z2) => whl t b z2
    | some (.bk, z2) => some (.nx, z2)
    | some (.rt d, z2) => some (.rt d, z2)
partial_fixpoint
end C
/-- a def by its body: n slots, k parameters -/
def fn (n k : Nat) (b : C) : Fn := fun ds h => if ds.length = k then match b ⟨slots n ds, h⟩ with
    | some (.rt d, z) => some (d, z.h)
    | some (.nx, z) => some (.non, z.h)
    | _ => none
  else none
end Mi

set_option Elab.async false
set_option linter.all false
set_option maxRecDepth 100000
/-! Mi, part D: the meanings are kept by the model: expressions and tests. -/
namespace Mi
open PySem PySem.Spec PyProof.Rows L2

abbrev RelT (α β : Type) := Bs → Hp → List Addr → (Nat → Option Addr) → Hp → α → β → Prop
/-- from the state z the meaning m goes on as Q wants -/
def Go (K : Kx) {α β : Type} (R : RelT α β) (B : Bs) (F : Hp) (rho : List Addr) (om : Nat → Option Addr) (m : M α) (z : Z) (σ : L2.St) (H : Hp) (Q : β → Hp → Prop) : Prop :=
  Rl K B F rho om z σ H ∧ ∃ x z', m z = some (x, z') ∧ ∀ F' rho' H' y, Same F F' → rho <+: rho' → Rl K B F' rho' om z' σ H' → R B F' rho' om H' x y → Q y H'
def Tx (K : Kx) {α β : Type} (R : RelT α β) (m : M α) : L2.St → Hp → (β → Hp → Prop) → Prop := fun σ H Q => ∃ B F rho om z, Go K R B F rho om m z σ H Q
abbrev rV (K : Kx) : RelT D V := fun _ F rho om _ d v => Rv K F rho om d v
abbrev rB : RelT Bool Bool := fun _ _ _ _ _ a b => b = a
abbrev rA (K : Kx) : RelT (List D) (List V) := fun _ F rho _ _ ds vs => Rps K F rho ds vs
abbrev rF (K : Kx) : RelT (List D) V := fun B F rho om H ds v => ∃ p xs, v = .ref p ∧ H p = some (.lst xs) ∧ Fresh K B F rho om H p ∧ Rps K F rho ds xs
abbrev rO : RelT (Option Int) (Option Int) := fun _ _ _ _ _ a b => b = a
abbrev Te (K : Kx) (m : M D) : TE := Tx K (rV K) m
abbrev Tt (K : Kx) (m : M Bool) : TT := Tx K rB m
abbrev Ta (K : Kx) (m : M (List D)) : TA := Tx K (rA K) m
abbrev Tf (K : Kx) (m : M (List D)) : TE := Tx K (rF K) m
abbrev To (K : Kx) (m : M (Option Int)) : TO := Tx K rO m

theorem bnd_some {α β : Type} {a : M α} {f : α → M β} {z z' : Z} {y : β} (h : bnd a f z = some (y, z')) : ∃ x z1, a z = some (x, z1) ∧ f x z1 = some (y, z') := by
  unfold bnd at h
  split at h
  · cases h
  · exact ⟨_, _, by assumption, h⟩

section
variable {K : Kx} {α β γ δ : Type} {R : RelT α β} {R' : RelT γ δ} {B : Bs} {F : Hp} {rho : List Addr} {om : Nat → Option Addr} {z : Z} {σ : L2.St} {H : Hp}
theorem Go.imp {m : M α} {Q Q' : β → Hp → Prop} (h : Go K R B F rho om m z σ H Q) (i : ∀ F' rho' H' x z' y, m z = some (x, z') → Same F F' → rho <+: rho' → Rl K B F' rho' om z' σ H' → R B F' rho' om H' x y → Q y H' → Q' y H') : Go K R B F rho om m z σ H Q' := by
  obtain ⟨r, x, z', e, k⟩ := h
  exact ⟨r, x, z', e, fun F' rho' H' y s p r' q => i F' rho' H' x z' y e s p r' q (k F' rho' H' y s p r' q)⟩
/-- one after another -/
theorem Go.bnd {a : M α} {f : α → M γ} {Q : δ → Hp → Prop} (h : Go K R' B F rho om (bnd a f) z σ H Q) :
    Go K R B F rho om a z σ H fun y H1 => ∃ F1 rho1 z1 x, a z = some (x, z1) ∧ Same F F1 ∧ rho <+: rho1 ∧ R B F1 rho1 om H1 x y ∧ Go K R' B F1 rho1 om (f x) z1 σ H1 Q := by
  obtain ⟨r, x, z', e, k⟩ := h
  obtain ⟨y, z1, e1, e2⟩ := bnd_some e
  exact ⟨r, y, z1, e1, fun F1 rho1 H1 v s1 p1 r1 q1 => ⟨F1, rho1, z1, y, e1, s1, p1, q1, r1, x, z', e2, fun F2 rho2 H2 w s2 p2 r2 q2 => k F2 rho2 H2 w (s1.trans s2) (p1.trans p2) r2 q2⟩⟩
theorem Go.ret {x : α} {Q : β → Hp → Prop} (h : Go K R B F rho om (ret x) z σ H Q) : ∀ y, R B F rho om H x y → Q y H := by
  obtain ⟨r, x', z', e, k⟩ := h
  unfold Mi.ret at e
  cases e
  exact fun y q => k F rho H y (Same.refl F) (List.prefix_refl _) r q
theorem Go.tx {m : M α} {Q : β → Hp → Prop} (h : Go K R B F rho om m z σ H Q) : Tx K R m σ H Q := ⟨B, F, rho, om, z, h⟩
/-- the end of an evaluation that changes nothing more -/
theorem Go.fin {m : M α} {Q : β → Hp → Prop} {x : α} (h : Go K R B F rho om m z σ H Q) (e : m z = some (x, z)) : ∀ y, R B F rho om H x y → Q y H := by
  obtain ⟨r, x', z', e', k⟩ := h
  rw [e] at e'
  cases e'
  exact fun y q => k F rho H y (Same.refl F) (List.prefix_refl _) r q
end

section
variable {K : Kx} {B : Bs} {F : Hp} {rho : List Addr} {om : Nat → Option Addr} {z : Z} {σ : L2.St} {H : Hp}
/-- a list or tuple, read -/
theorem cont_ok (R : Rl K B F rho om z σ H) {d : D} {v : V} {t : Bool} {ds : List D} (r : Rv K F rho om d v) (e : cont d z = some (t, ds)) :
    ∃ a xs, v = .ref a ∧ Rps K F rho ds xs ∧ ((t = false ∧ SqL K H a xs) ∨ (t = true ∧ SqT K H a xs)) := by
  cases r with
  | pure r =>
    cases r with
    | non => cases e
    | bl b => cases e
    | int i => cases e
    | str x => cases e
    | tup h q =>
      cases e
      exact ⟨_, _, rfl, q, .inr ⟨rfl, SqT.of (R.rh.fro _ _ h)⟩⟩
    | kt h q =>
      cases e
      exact ⟨_, _, rfl, q, .inr ⟨rfl, Same.sqt R.rh.fro h⟩⟩
    | lst h q =>
      cases e
      exact ⟨_, _, rfl, q, .inl ⟨rfl, SqL.of (R.rh.fro _ _ h)⟩⟩
    | scr h q =>
      cases e
      exact ⟨_, _, rfl, q, .inl ⟨rfl, R.rh.fro.seq h⟩⟩
    | @ref n a h =>
      have e : (match z.h[n]? with | some (.lst xs) => some (false, xs) | _ => none) = some (t, ds) := e
      split at e
      · rename_i xs hx
        cases e
        obtain ⟨ys, h1, h2⟩ := R.rh.obs n _ a hx h
        exact ⟨a, ys, rfl, h2, .inl ⟨rfl, SqL.of h1⟩⟩
      · cases e
    | dk => cases e
    | dt => cases e
    | ins => cases e
  | @own i a h =>
    have e : (match z.s[i]? with | some (.own (.lst xs)) => some (false, xs) | _ => none) = some (t, ds) := e
    split at e
    · rename_i xs hx
      cases e
      obtain ⟨a', h1, _, h2⟩ := R.sl i _ hx
      rw [h] at h1
      cases h1
      obtain ⟨ys, h3, h4⟩ := h2
      exact ⟨a, ys, rfl, h4, .inl ⟨rfl, SqL.of h3⟩⟩
    · cases e
theorem Rv.of_pure {d : D} {v : V} (r : Rv K F rho om d v) (h : isPure d = true) : Rp K F rho d v := by
  cases r with
  | pure r => exact r
  | own _ => cases h
theorem Rp.isPure {d : D} {v : V} (r : Rp K F rho d v) : isPure d = true := by cases r <;> rfl
end

/-! ### a reading in another one's place -/
section
variable {X : Cx} {Tb : Tbs}
theorem pe_imp {e : Expr} {t t' : TE} (h : PE X e t) (i : ∀ σ H Q, t' σ H Q → t σ H Q) : PE X e t' := ⟨fun pins s σ H Q I hw => h.run pins s σ H Q I (i σ H Q hw)⟩
theorem pt_imp {e : Expr} {t t' : TT} (h : PT X e t) (i : ∀ σ H Q, t' σ H Q → t σ H Q) : PT X e t' := ⟨fun pins s σ H Q I hw => h.run pins s σ H Q I (i σ H Q hw)⟩
theorem pw_imp {e : Expr} {t t' : TT} (h : PW X e t) (i : ∀ σ H Q, t' σ H Q → t σ H Q) : PW X e t' := ⟨fun wh pins s σ H Q I hw => h.run wh pins s σ H Q I (i σ H Q hw)⟩
theorem pa_imp {es : List Expr} {t t' : TA} (h : PA X es t) (i : ∀ σ H Q, t' σ H Q → t σ H Q) : PA X es t' := ⟨fun pos pins s σ H Q I hw => h.run pos pins s σ H Q I (i σ H Q hw)⟩
theorem ps_imp {st : Stmt} {t t' : TS} (h : PS X st t) (i : ∀ D σ H, t' D σ H → t D σ H) : PS X st t' := ⟨fun pins s σ H D I hw => h.run pins s σ H D I (i D σ H hw)⟩
theorem pss_imp {st : List Stmt} {t t' : TS} (h : PSs X st t) (i : ∀ D σ H, t' D σ H → t D σ H) : PSs X st t' := ⟨fun pins s σ H D I hw => h.run pins s σ H D I (i D σ H hw)⟩
theorem pg_imp {e : Expr} {t t' : TG} (h : PG X e t) (i : ∀ v σ H Q, t' v σ H Q → t v σ H Q) : PG X e t' := ⟨fun pins s σ H v u Q I r hw => h.run pins s σ H v u Q I r (i v σ H Q hw)⟩
theorem pgs_imp {es : List Expr} {t t' : TGs} (h : PGs X es t) (i : ∀ vs σ H Q, t' vs σ H Q → t vs σ H Q) : PGs X es t' := ⟨fun pins s σ H vs us Q I r hw => h.run pins s σ H vs us Q I r (i vs σ H Q hw)⟩
theorem pi_imp {tg e : Expr} {t t' : TI} (h : PI X tg e t) (i : ∀ σ H R, t' σ H R → t σ H R) : PI X tg e t' := ⟨fun pins s σ H R I hw => h.run pins s σ H R I (i σ H R hw)⟩
theorem pts_imp {es : List Expr} {t t' : TT} (h : PTs X es t) (i : ∀ σ H Q, t' σ H Q → t σ H Q) : PTs X es t' := ⟨fun pins s σ H Q I hw => h.run pins s σ H Q I (i σ H Q hw)⟩
theorem po_imp {e : Option Expr} {t t' : TO} (h : PO X e t) (i : ∀ σ H Q, t' σ H Q → t σ H Q) : PO X e t' := ⟨fun pins s σ H Q I hw => h.run pins s σ H Q I (i σ H Q hw)⟩

/-! ### names, constants -/
theorem me_var (i : Nat) {x : Str} {pos : Pos} (hN : X.N[i]? = some x := by rfl) (hv : Vis X.env.scope x := by first | exact Or.inl rfl | exact Or.inr (Or.inl rfl) | exact Or.inr (Or.inr rfl)) (hd : (x == ("__debug__" : Str)) = false := by decide)
    (hcd : (x == ("__classdict__" : Str)) = false := by decide) : PE X (.Name x pos) (Te (kx X Tb) (E.var i)) := by
  refine pe_imp (pe_var hN hv hd hcd) fun σ H Q ⟨B, F, rho, om, z, R, d, z', e, k⟩ => ?_
  unfold E.var at e
  split at e
  · rename_i d' hd'
    cases e
    obtain ⟨v, h1, h2⟩ := R.sl i _ hd'
    exact ⟨v, h1, k F rho H v (Same.refl F) (List.prefix_refl _) R (.pure h2)⟩
  · rename_i d' hd'
    cases e
    obtain ⟨a, h1, h2, h3⟩ := R.sl i _ hd'
    exact ⟨_, h2, k F rho H _ (Same.refl F) (List.prefix_refl _) R (.own h1)⟩
  · cases e
/-- a constant's reading -/
theorem tc_ok {K : Kx} {d : D} {v : V} (h : ∀ F rho, Rp K F rho d v) : ∀ σ H Q, Te K (E.c d) σ H Q → tC v σ H Q := fun σ H Q ⟨B, F, rho, om, z, g⟩ => g.ret v (.pure (h F rho))
theorem me_int {i j pos} : PE X (.Constant (.int i) j pos) (Te (kx X Tb) (E.c (.int i))) := pe_imp pe_int (tc_ok fun _ _ => .int i)
theorem me_bl {b j pos} : PE X (.Constant (.bool b) j pos) (Te (kx X Tb) (E.c (.bl b))) := pe_imp pe_bl (tc_ok fun _ _ => .bl b)
theorem me_non {j pos} : PE X (.Constant .none j pos) (Te (kx X Tb) (E.c .non)) := pe_imp pe_non (tc_ok fun _ _ => .non)
theorem me_str {x j pos} : PE X (.Constant (.str x) j pos) (Te (kx X Tb) (E.c (.str x))) := pe_imp pe_str (tc_ok fun _ _ => .str x)
/-- a module's constant -/
theorem me_glob {x : Str} {d : D} {v : V} {u : Value} {pos : Pos} (hg : Gl X x) (hm : X.mg x = some u) (r : RelV v u) (h : ∀ F rho, Rp (kx X Tb) F rho d v) (hd : (x == ("__debug__" : Str)) = false := by decide) : PE X (.Name x pos) (Te (kx X Tb) (E.c d)) :=
  pe_imp (pe_glob hg hm r hd) (tc_ok h)

/-! ### arguments -/
theorem ma_nil : PA X [] (Ta (kx X Tb) (E.args [])) := pa_imp pa_nil fun σ H Q ⟨B, F, rho, om, z, g⟩ => g.ret [] .nil
theorem ma_cons {e : Expr} {es : List Expr} {m : M D} {ms : List (M D)} (ha : PE X e (Te (kx X Tb) m)) (hr : PA X es (Ta (kx X Tb) (E.args ms))) (hs : starEach (e :: es) X.env = (false, eval e X.env) :: starEach es X.env := by rfl) :
    PA X (e :: es) (Ta (kx X Tb) (E.args (m :: ms))) := by
  refine pa_imp (pa_cons ha hr hs) fun σ H Q ⟨B, F, rho, om, z, g⟩ => ?_
  refine (g.bnd.imp fun F1 rho1 H1 x z1 y _ _ _ _ _ ⟨F2, rho2, z2, x2, eg1, s1, p1, r1, g1⟩ => ?_).tx (R := rV (kx X Tb))
  refine (g1.bnd.imp fun F3 rho3 H3 xs z3 ys _ _ _ _ _ ⟨F4, rho4, z4, xs4, eg2, s2, p2, r2, g2⟩ => ?_).tx (R := rA (kx X Tb))
  by_cases hp : isPure x2 = true
  · rw [if_pos hp] at g2
    exact g2.ret _ (.cons ((r1.mono s2 p2).of_pure hp) r2)
  · rw [if_neg hp] at g2
    obtain ⟨_, _, _, e, _⟩ := g2
    cases e
/-- one argument, of any kind -/
theorem ta_one {K : Kx} {m : M D} {σ : L2.St} {H : Hp} {Q : List V → Hp → Prop} (h : Te K m σ H fun v H1 => Q [v] H1) : tCons (Te K m) tNil σ H Q := h
end
end Mi

set_option Elab.async false
set_option linter.all false
set_option maxRecDepth 100000
/-! Mi, part D2: operations, displays, calls. -/
namespace Mi
open PySem PySem.Spec PyProof.Rows L2
section
variable {X : Cx} {Tb : Tbs}
/-- a two-place operation of values and its rule -/
def OpV (K : Kx) (r : R2) (f : D → D → Z → Option D) : Prop :=
  ∀ {B : Bs} {F : Hp} {rho : List Addr} {om : Nat → Option Addr} {z : Z} {σ : L2.St} {H : Hp} {x y : D} {xv yv : V} {d : D}, Rl K B F rho om z σ H → Rv K F rho om x xv → Rv K F rho om y yv → f x y z = some d →
    ∀ Q : VK, (∀ F' H' v, Same F F' → Rl K B F' rho om z σ H' → Rv K F' rho om d v → Q v H') → r xv yv H Q
theorem op_go {K : Kx} {r : R2} {f : D → D → Z → Option D} (hv : OpV K r f) {ma mb : M D} : ∀ σ H Q, Te K (E.op f ma mb) σ H Q → tOp r (Te K ma) (Te K mb) σ H Q := by
  rintro σ H Q ⟨B, F, rho, om, z, g⟩
  refine (g.bnd.imp fun _ _ H1 _ _ xv _ _ _ _ _ ⟨F2, rho2, z2, x2, eg1, s1, p1, r1, g1⟩ => ?_).tx (R := rV K)
  refine (g1.bnd.imp fun _ _ H2 _ _ yv _ _ _ _ _ ⟨F3, rho3, z3, y3, eg2, s2, p2, r2, g2⟩ => ?_).tx (R := rV K)
  obtain ⟨R, d, z4, e, k⟩ := g2
  dsimp only at e
  split at e
  · cases e
  · rename_i d' hd
    cases e
    exact hv R (r1.mono s2 p2) r2 hd Q fun F' H' v s R' q => k F' rho3 H' v s (List.prefix_refl _) R' q
def UnV (K : Kx) (r : V → Hp → VK → Prop) (f : D → Z → Option D) : Prop :=
  ∀ {B : Bs} {F : Hp} {rho : List Addr} {om : Nat → Option Addr} {z : Z} {σ : L2.St} {H : Hp} {x : D} {xv : V} {d : D}, Rl K B F rho om z σ H → Rv K F rho om x xv → f x z = some d →
    ∀ Q : VK, (∀ F' H' v, Same F F' → Rl K B F' rho om z σ H' → Rv K F' rho om d v → Q v H') → r xv H Q
theorem un_go {K : Kx} {r : V → Hp → VK → Prop} {f : D → Z → Option D} (hv : UnV K r f) {ma : M D} : ∀ σ H Q, Te K (E.un f ma) σ H Q → tUn r (Te K ma) σ H Q := by
  rintro σ H Q ⟨B, F, rho, om, z, g⟩
  refine (g.bnd.imp fun _ _ H1 _ _ xv _ _ _ _ _ ⟨F2, rho2, z2, x2, eg1, s1, p1, r1, g1⟩ => ?_).tx (R := rV K)
  obtain ⟨R, d, z4, e, k⟩ := g1
  dsimp only at e
  split at e
  · cases e
  · rename_i d' hd
    cases e
    exact hv R r1 hd Q fun F' H' v s R' q => k F' rho2 H' v s (List.prefix_refl _) R' q
/-- a rule of the model and its meaning, together -/
structure OpM (X : Cx) (g : Value → Value → Sem Value) (f : D → D → Z → Option D) : Prop where
  rl : ∃ r, OpR X g r ∧ ∀ Tb, OpV (kx X Tb) r f
theorem me_op {op : Operator} {f : D → D → Z → Option D} {a b : Expr} {pos : Pos} {ma mb : M D} (ho : OpM X (binaryOp op) f) (ha : PE X a (Te (kx X Tb) ma)) (hb : PE X b (Te (kx X Tb) mb)) : PE X (.BinOp a op b pos) (Te (kx X Tb) (E.op f ma mb)) := by
  obtain ⟨r, h1, h2⟩ := ho.rl
  exact pe_imp (pe_op h1 ha hb) (op_go (h2 _))
theorem me_cmp {op : CmpOp} {f : D → D → Z → Option D} {a b : Expr} {pos : Pos} {ma mb : M D} (ho : OpM X (compareOp op) f) (ha : PE X a (Te (kx X Tb) ma)) (hb : PE X b (Te (kx X Tb) mb)) (hm : behindInMarks op b = false) : PE X (.Compare a [op] [b] pos) (Te (kx X Tb) (E.op f ma mb)) := by
  obtain ⟨r, h1, h2⟩ := ho.rl
  exact pe_imp (pe_cmpR h1 ha hb hm) (op_go (h2 _))
/-- the reading of a test by an expression that gives True or False -/
theorem tv_go {K : Kx} {t : TE} {m : M D} (h : ∀ σ H Q, Te K m σ H Q → t σ H Q) : ∀ σ H Q, Tt K (T.val m) σ H Q → tTest t σ H Q := by
  rintro σ H Q ⟨B, F, rho, om, z, g⟩
  refine h σ H _ ((g.bnd.imp fun _ _ H1 _ _ xv _ _ _ _ _ ⟨F2, rho2, z2, x2, eg1, s1, p1, r1, g1⟩ => ?_).tx (R := rV K))
  cases r1 with
  | own _ => obtain ⟨_, _, _, e, _⟩ := g1; cases e
  | pure r1 =>
    cases r1 with
    | bl b => exact ⟨b, rfl, g1.ret b rfl⟩
    | _ => obtain ⟨_, _, _, e, _⟩ := g1; cases e
theorem mt_cmp {op : CmpOp} {f : D → D → Z → Option D} {a b : Expr} {pos : Pos} {ma mb : M D} (ho : OpM X (compareOp op) f) (ha : PE X a (Te (kx X Tb) ma)) (hb : PE X b (Te (kx X Tb) mb)) (hm : behindInMarks op b = false) : PT X (.Compare a [op] [b] pos) (Tt (kx X Tb) (T.val (E.op f ma mb))) := by
  obtain ⟨r, h1, h2⟩ := ho.rl
  exact pt_imp (pt_cmpR h1 ha hb hm) (tv_go (op_go (h2 _)))
theorem mt_val {e : Expr} {m : M D} (h : PE X e (Te (kx X Tb) m)) (he : ∀ whole, isTrue e X.env whole = (do let v ← whole; standAt e.pos; holding [v] (truthy v)) := by intro _; rfl) : PT X e (Tt (kx X Tb) (T.val m)) :=
  pt_imp (pt_val h he) (tv_go fun _ _ _ h => h)
/-- is None, is not None -/
theorem isN_go {K : Kx} {ma : M D} : ∀ σ H Q, Te K (E.isN ma) σ H Q → tIsN (Te K ma) σ H Q := by
  rintro σ H Q ⟨B, F, rho, om, z, g⟩
  refine (g.bnd.imp fun _ _ H1 _ _ xv _ _ _ _ _ ⟨F2, rho2, z2, x2, eg1, s1, p1, r1, g1⟩ => ?_).tx (R := rV K)
  cases r1 with
  | own _ => exact g1.ret _ (.pure (.bl false))
  | pure r1 =>
    cases r1 with
    | non => exact g1.ret _ (.pure (.bl true))
    | _ => exact g1.ret _ (.pure (.bl false))
theorem notN_go {K : Kx} {ma : M D} : ∀ σ H Q, Te K (E.notN ma) σ H Q → tNotN (Te K ma) σ H Q := by
  rintro σ H Q ⟨B, F, rho, om, z, g⟩
  refine (g.bnd.imp fun _ _ H1 _ _ xv _ _ _ _ _ ⟨F2, rho2, z2, x2, eg1, s1, p1, r1, g1⟩ => ?_).tx (R := rV K)
  cases r1 with
  | own _ => exact g1.ret _ (.pure (.bl true))
  | pure r1 =>
    cases r1 with
    | non => exact g1.ret _ (.pure (.bl false))
    | _ => exact g1.ret _ (.pure (.bl true))
theorem me_isN {a : Expr} {ma : M D} {pos pos' : Pos} {j} (ha : PE X a (Te (kx X Tb) ma)) : PE X (.Compare a [.Is] [.Constant .none j pos'] pos) (Te (kx X Tb) (E.isN ma)) := pe_imp (pe_cmp (pc_isN ha) (by rfl)) isN_go
theorem me_notN {a : Expr} {ma : M D} {pos pos' : Pos} {j} (ha : PE X a (Te (kx X Tb) ma)) : PE X (.Compare a [.IsNot] [.Constant .none j pos'] pos) (Te (kx X Tb) (E.notN ma)) := pe_imp (pe_cmp (pc_notN ha) (by rfl)) notN_go
theorem mt_isN {a : Expr} {ma : M D} {pos pos' : Pos} {j} (ha : PE X a (Te (kx X Tb) ma)) : PT X (.Compare a [.Is] [.Constant .none j pos'] pos) (Tt (kx X Tb) (T.val (E.isN ma))) := pt_imp (pt_cmp (pc_isN ha) (by rfl)) (tv_go isN_go)
theorem mt_notN {a : Expr} {ma : M D} {pos pos' : Pos} {j} (ha : PE X a (Te (kx X Tb) ma)) : PT X (.Compare a [.IsNot] [.Constant .none j pos'] pos) (Tt (kx X Tb) (T.val (E.notN ma))) := pt_imp (pt_cmp (pc_notN ha) (by rfl)) (tv_go notN_go)
/-- a < b < c -/
theorem chain_go {K : Kx} {r r' : R2} {f f' : D → D → Z → Option D} (hv : OpV K r f) (hv' : OpV K r' f') {ma mb mc : M D} : ∀ σ H Q, Te K (E.chain f f' ma mb mc) σ H Q → tChain r r' (Te K ma) (Te K mb) (Te K mc) σ H Q := by
  rintro σ H Q ⟨B, F, rho, om, z, g⟩
  refine (g.bnd.imp fun _ _ H1 _ _ xv _ _ _ _ _ ⟨F2, rho2, z2, x2, eg1, s1, p1, r1, g1⟩ => ?_).tx (R := rV K)
  refine (g1.bnd.imp fun _ _ H2 _ _ yv _ _ _ _ _ ⟨F3, rho3, z3, y3, eg2, s2, p2, r2, g2⟩ => ?_).tx (R := rV K)
  obtain ⟨R, d, z4, e, k⟩ := g2
  dsimp only at e
  split at e
  · rename_i hd
    refine hv R (r1.mono s2 p2) r2 hd _ fun F' H' v s R' q => ?_
    cases q with
    | pure q =>
      cases q
      refine ⟨true, rfl, ?_⟩
      rw [if_pos rfl]
      have g3 : Go K (rV K) B F' rho3 om _ z3 σ H' Q := ⟨R', d, z4, e, fun F4 rho4 H4 v4 s4 p4 R4 q4 => k F4 rho4 H4 v4 (s.trans s4) p4 R4 q4⟩
      refine (g3.bnd.imp fun _ _ H5 _ _ wv _ _ _ _ _ ⟨F6, rho6, z6, x6, eg6, s6, p6, r6, g6⟩ => ?_).tx (R := rV K)
      obtain ⟨R7, d7, z7, e7, k7⟩ := g6
      dsimp only at e7
      split at e7
      · rename_i c hc
        cases e7
        exact hv' R7 ((r2.mono s (List.prefix_refl _)).mono s6 p6) r6 hc _ fun F8 H8 v8 s8 R8 q8 => by
          cases q8 with
          | pure q8 =>
            cases q8
            exact k7 F8 _ H8 _ s8 (List.prefix_refl _) R8 (.pure (.bl c))
      · cases e7
  · rename_i hd
    cases e
    refine hv R (r1.mono s2 p2) r2 hd _ fun F' H' v s R' q => ?_
    cases q with
    | pure q =>
      cases q
      refine ⟨false, rfl, ?_⟩
      rw [if_neg (by decide)]
      exact k F' _ H' _ s (List.prefix_refl _) R' (.pure (.bl false))
  · cases e
theorem me_chain {op op' : CmpOp} {f f' : D → D → Z → Option D} {a b c : Expr} {pos : Pos} {ma mb mc : M D} (ho : OpM X (compareOp op) f) (ho' : OpM X (compareOp op') f') (ha : PE X a (Te (kx X Tb) ma)) (hb : PE X b (Te (kx X Tb) mb)) (hc : PE X c (Te (kx X Tb) mc))
    (hm : lastMarks [op, op'] [b, c] = false := by with_unfolding_all rfl) : PE X (.Compare a [op, op'] [b, c] pos) (Te (kx X Tb) (E.chain f f' ma mb mc)) := by
  obtain ⟨r, h1, h2⟩ := ho.rl
  obtain ⟨r', h1', h2'⟩ := ho'.rl
  exact pe_imp (pe_chain h1 h1' ha hb hc hm) (chain_go (h2 _) (h2' _))
theorem mt_chain {op op' : CmpOp} {f f' : D → D → Z → Option D} {a b c : Expr} {pos : Pos} {ma mb mc : M D} (ho : OpM X (compareOp op) f) (ho' : OpM X (compareOp op') f') (ha : PE X a (Te (kx X Tb) ma)) (hb : PE X b (Te (kx X Tb) mb)) (hc : PE X c (Te (kx X Tb) mc))
    (hm : lastMarks [op, op'] [b, c] = false := by with_unfolding_all rfl) : PT X (.Compare a [op, op'] [b, c] pos) (Tt (kx X Tb) (T.val (E.chain f f' ma mb mc))) := by
  obtain ⟨r, h1, h2⟩ := ho.rl
  obtain ⟨r', h1', h2'⟩ := ho'.rl
  exact pt_imp (pt_chain h1 h1' ha hb hc hm) (tv_go (chain_go (h2 _) (h2' _)))

/-! ### the operations' rules -/
theorem two_ints {K : Kx} {F : Hp} {rho : List Addr} {om : Nat → Option Addr} {z : Z} {x y : D} {xv yv : V} {d : D} {g : Int → Int → Option D} {f : D → D → Z → Option D}
    (hf : ∀ x y z, f x y z = match x, y with | .int i, .int j => g i j | _, _ => none) (rx : Rv K F rho om x xv) (ry : Rv K F rho om y yv) (e : f x y z = some d) : ∃ i j, x = .int i ∧ y = .int j ∧ xv = .int i ∧ yv = .int j ∧ g i j = some d := by
  rw [hf] at e
  cases x <;> try (cases e; done)
  cases y <;> try (cases e; done)
  cases rx with
  | pure rx =>
    cases rx
    cases ry with
    | pure ry =>
      cases ry
      exact ⟨_, _, rfl, rfl, rfl, rfl, e⟩
theorem opI0_ok {f : D → D → Z → Option D} {g : Int → Int → V} {g' : Int → Int → D} (hg : ∀ K F rho i j, Rp K F rho (g' i j) (g i j)) (hf : ∀ x y z, f x y z = match x, y with | .int i, .int j => some (g' i j) | _, _ => none) {K : Kx} : OpV K (rI0 g) f := by
  intro B F rho om z σ H x y xv yv d R rx ry e Q k
  obtain ⟨i, j, rfl, rfl, rfl, rfl, e⟩ := two_ints (g := fun i j => some (g' i j)) hf rx ry e
  cases e
  exact ⟨i, j, rfl, rfl, k F H _ (Same.refl F) R (.pure (hg _ _ _ _ _))⟩
theorem opI_ok {f : D → D → Z → Option D} {C : Int → Int → Prop} {g : Int → Int → Int} {h : Int → Int → Option D} (hh : ∀ i j d, h i j = some d → C i j ∧ d = .int (g i j)) (hf : ∀ x y z, f x y z = match x, y with | .int i, .int j => h i j | _, _ => none) {K : Kx} : OpV K (rI C fun i j => .int (g i j)) f := by
  intro B F rho om z σ H x y xv yv d R rx ry e Q k
  obtain ⟨i, j, rfl, rfl, rfl, rfl, e⟩ := two_ints (g := h) hf rx ry e
  obtain ⟨c, rfl⟩ := hh i j d e
  exact ⟨i, j, rfl, rfl, c, k F H _ (Same.refl F) R (.pure (.int _))⟩
theorem o_add : OpM X (binaryOp .Add) O.add := ⟨_, op_add, fun _ => opI0_ok (g' := fun i j => .int (i + j)) (fun _ _ _ _ _ => .int _) fun x y z => by cases x <;> cases y <;> rfl⟩
theorem o_sub : OpM X (binaryOp .Sub) O.sub := ⟨_, op_sub, fun _ => opI0_ok (g' := fun i j => .int (i - j)) (fun _ _ _ _ _ => .int _) fun x y z => by cases x <;> cases y <;> rfl⟩
theorem o_lt : OpM X (compareOp .Lt) O.lt := ⟨_, op_lt, fun _ => opI0_ok (g' := fun i j => .bl (decide (i < j))) (fun _ _ _ _ _ => .bl _) fun x y z => by cases x <;> cases y <;> rfl⟩
theorem o_le : OpM X (compareOp .LtE) O.le := ⟨_, op_le, fun _ => opI0_ok (g' := fun i j => .bl (decide (i ≤ j))) (fun _ _ _ _ _ => .bl _) fun x y z => by cases x <;> cases y <;> rfl⟩
theorem o_gt : OpM X (compareOp .Gt) O.gt := ⟨_, op_gt, fun _ => opI0_ok (g' := fun i j => .bl (decide (j < i))) (fun _ _ _ _ _ => .bl _) fun x y z => by cases x <;> cases y <;> rfl⟩
theorem o_ge : OpM X (compareOp .GtE) O.ge := ⟨_, op_ge, fun _ => opI0_ok (g' := fun i j => .bl (decide (j ≤ i))) (fun _ _ _ _ _ => .bl _) fun x y z => by cases x <;> cases y <;> rfl⟩
theorem bigN_pos : 0 < bigN := by decide
open Classical in
theorem o_mul : OpM X (binaryOp .Mult) O.mul := by
  refine ⟨_, op_mulW, fun _ => opI_ok (h := fun i j => if smI i ∧ smI j then some (.int (i * j)) else none) (fun i j d e => ?_) fun x y z => by cases x <;> cases y <;> rfl⟩
  split at e
  · rename_i c
    cases e
    exact ⟨wide_mul c.1 c.2 bigN_pos bigN_pos (by decide), rfl⟩
  · cases e
open Classical in
theorem o_div : OpM X (binaryOp .FloorDiv) O.div := by
  refine ⟨_, op_fdivW, fun _ => opI_ok (h := fun i j => if 0 < j ∧ smI j then some (.int (i / j)) else none) (fun i j d e => ?_) fun x y z => by cases x <;> cases y <;> rfl⟩
  split at e
  · rename_i c
    cases e
    exact ⟨wide_div c.1 c.2 bigN_pos (by decide), rfl⟩
  · cases e
theorem o_mod : OpM X (binaryOp .Mod) O.mod := by
  refine ⟨_, op_mod, fun _ => opI_ok (h := fun i j => if 0 < j then some (.int (i % j)) else none) (fun i j d e => ?_) fun x y z => by cases x <;> cases y <;> rfl⟩
  split at e
  · rename_i c
    cases e
    exact ⟨c, rfl⟩
  · cases e
theorem me_neg {a : Expr} {pos : Pos} {ma : M D} (ha : PE X a (Te (kx X Tb) ma)) : PE X (.UnaryOp .USub a pos) (Te (kx X Tb) (E.un O.neg ma)) := by
  refine pe_imp (pe_un un_neg ha) (un_go ?_)
  intro B F rho om z σ H x xv d R rx e Q k
  unfold O.neg at e
  split at e
  · cases e
    cases rx with
    | pure rx =>
      cases rx
      exact ⟨_, rfl, k F H _ (Same.refl F) R (.pure (.int _))⟩
  · cases e

/-! ### displays -/
theorem args_len : ∀ {as : List (M D)} {z z' : Z} {xs : List D}, E.args as z = some (xs, z') → xs.length = as.length
  | [], z, z', xs, h => by
    cases h
    rfl
  | a :: as, z, z', xs, h => by
    obtain ⟨x, z1, _, h2⟩ := bnd_some h
    obtain ⟨ys, z2, h3, h4⟩ := bnd_some h2
    split at h4
    · cases h4
      rw [List.length_cons, List.length_cons, args_len h3]
    · cases h4
theorem me_tup {es : List Expr} {k : Nat} {pos : Pos} {ms : List (M D)} (h : PA X es (Ta (kx X Tb) (E.args ms))) (hl : ms.length ≤ 1000 := by decide) : PE X (.Tuple es k pos) (Te (kx X Tb) (E.tup ms)) := by
  refine pe_imp (pe_tup h) fun σ H Q ⟨B, F, rho, om, z, g⟩ => ?_
  refine (g.bnd.imp fun _ _ H1 _ _ vs em _ _ _ _ ⟨F2, rho2, z2, xs, eg1, s1, p1, r1, g1⟩ => ?_).tx (R := rA (kx X Tb))
  obtain ⟨R, d, z4, e, k⟩ := g1
  cases e
  refine ⟨?_, fun p hp => ?_⟩
  · have hv := r1.length
    have hx := args_len eg1
    exact Nat.le_trans (by omega) (show 1000 ≤ sizeLine by decide)
  · obtain ⟨F3, R3, s3, q3⟩ := R.alloc (o := .tup vs) hp
    exact k F3 rho2 _ _ s3 (List.prefix_refl _) R3 (.pure (.tup q3 (r1.mono s3 (List.prefix_refl _))))
end
end Mi

set_option Elab.async false
set_option linter.all false
set_option maxRecDepth 100000
/-! Mi, part D3: lists, calls, tests. -/
namespace Mi
open PySem PySem.Spec PyProof.Rows L2
section
variable {X : Cx} {Tb : Tbs}
/-! ### new lists -/
theorem mf_disp {es : List Expr} {pos : Pos} {ms : List (M D)} (h : PA X es (Ta (kx X Tb) (E.args ms))) (hl : ms.length ≤ 1000 := by decide) : PE X (.List es pos) (Tf (kx X Tb) (N.disp ms)) := by
  refine pe_imp (pe_lst h) fun σ H Q ⟨B, F, rho, om, z, R, xs, z', e, k⟩ => ?_
  refine ⟨B, F, rho, om, z, R, xs, z', e, fun F1 rho1 H1 vs s1 p1 R1 r1 => ⟨?_, fun p hp => ?_⟩⟩
  · have hv := r1.length
    have hx := args_len e
    exact Nat.le_trans (by omega) (show 1000 ≤ sizeLine by decide)
  · obtain ⟨R2, f2⟩ := R1.new (o := .lst vs) hp
    exact k F1 rho1 _ _ s1 p1 R2 ⟨p, vs, rfl, upd_same, f2, r1⟩
/-- a new list laid down -/
theorem me_frz {e : Expr} {m : M (List D)} (h : PE X e (Tf (kx X Tb) m)) : PE X e (Te (kx X Tb) (E.frz m)) := by
  refine pe_imp h fun σ H Q ⟨B, F, rho, om, z, g⟩ => ?_
  refine (g.bnd.imp fun _ _ H1 _ _ v _ _ _ _ _ ⟨F2, rho2, z2, xs, eg1, s1, p1, ⟨p, vs, hv, hp, f, r1⟩, g1⟩ => ?_).tx (R := rF (kx X Tb))
  subst hv
  obtain ⟨R, d, z4, e, k⟩ := g1
  cases e
  obtain ⟨R3, s3⟩ := R.lay f hp
  exact k _ rho2 _ _ s3 (List.prefix_refl _) R3 (.pure (.lst upd_same (r1.mono s3 (List.prefix_refl _))))
/-- a new list joins the shared heap -/
theorem me_shr {e : Expr} {m : M (List D)} (h : PE X e (Tf (kx X Tb) m)) : PE X e (Te (kx X Tb) (E.shr m)) := by
  refine pe_imp h fun σ H Q ⟨B, F, rho, om, z, g⟩ => ?_
  refine (g.bnd.imp fun _ _ H1 _ _ v _ _ _ _ _ ⟨F2, rho2, z2, xs, eg1, s1, p1, ⟨p, vs, hv, hp, f, r1⟩, g1⟩ => ?_).tx (R := rF (kx X Tb))
  subst hv
  obtain ⟨R, d, z4, e, k⟩ := g1
  cases e
  obtain ⟨R3, q3⟩ := R.share (d := .lst xs) f ⟨vs, hp, r1⟩
  exact k _ _ _ _ (Same.refl _) (List.prefix_append _ _) R3 (.pure (.ref q3))

/-! ### items -/
theorem Rps.atI {K : Kx} {F : Hp} {rho : List Addr} {ds : List D} {vs : List V} {i : Int} {d : D} (r : Rps K F rho ds vs) (h : L2.atI ds i = some d) : ∃ v, L2.atI vs i = some v ∧ Rp K F rho d v := by
  unfold L2.atI at h ⊢
  rw [← r.length]
  cases q : ixN ds.length i with
  | none =>
    rw [q] at h
    cases h
  | some j =>
    rw [q] at h
    exact r.get h
theorem ix_ok {K : Kx} : OpV K (fun x y H Q => rIxL K x y H Q ∨ rIxT K x y H Q) O.ix := by
  intro B F rho om z σ H x y xv yv d R rx ry e Q k
  unfold O.ix at e
  split at e
  · rename_i t ds i hc
    obtain ⟨a, xs, rfl, q, h⟩ := cont_ok R rx hc
    cases ry with
    | pure ry =>
      cases ry
      obtain ⟨v, hv, rv⟩ := q.atI e
      have fin := k F H v (Same.refl F) R (.pure rv)
      rcases h with ⟨_, h⟩ | ⟨_, h⟩
      · exact .inl ⟨a, xs, i, v, rfl, rfl, h, hv, fin⟩
      · exact .inr ⟨a, xs, i, v, rfl, rfl, h, hv, fin⟩
  · cases e
theorem me_ix {a b : Expr} {pos : Pos} {ma mb : M D} (ha : PE X a (Te (kx X Tb) ma)) (hb : PE X b (Te (kx X Tb) mb)) (hs : PlainIx b := by exact fun _ _ => rfl) : PE X (.Subscript a b pos) (Te (kx X Tb) (E.op O.ix ma mb)) :=
  pe_imp (pe_ix (ix_list.or ix_tup) ha hb hs) (op_go ix_ok)

/-! ### a def's call -/
theorem call_go {K : Kx} {n : Nat} {mf : Fn} {ms : List (M D)} {es : List Expr} {XE : XK} (hn : ms.length = n) : ∀ σ H Q, Te K (E.call mf ms) σ H Q → tCall (spM n K mf) [] XE (Ta K (E.args ms)) σ H Q := by
  rintro σ H Q ⟨B, F, rho, om, z, g⟩
  refine (g.bnd.imp fun _ _ H1 _ _ vs _ _ _ _ _ ⟨F2, rho2, z2, xs, eg1, s1, p1, r1, g1⟩ => ?_).tx (R := rA K)
  obtain ⟨R, d, z4, e, k⟩ := g1
  dsimp only at e
  split at e
  · cases e
  · rename_i d' h' hd
    cases e
    rw [List.append_nil]
    have hx := args_len eg1
    refine ⟨by rw [← r1.length, hx, hn], F2, rho2, z2.h, xs, R.rh, r1, _, _, hd, fun F' rho' H' v e1 e2 r fr nf nr q => ?_⟩
    exact k F' rho' H' v e1 e2 (R.called e1 e2 r fr nf nr) (.pure q)
theorem me_call {k : Nat} {f : Addr} {fd : FuncData} {ps : List Str} {n : Nat} {mf : Fn} {x : Str} {p pos : Pos} {e : Expr} {es : List Expr} {ms : List (M D)} (G : FnOk X.prog X.w X.K X.mg X.base CX0 k f fd ps (spM n (kx X Tb) mf)) (hr : Room k X.A) (hg : Gl X x) (hm : X.mg x = some (.ref f))
    (hk : PySem.W.keepIn X.K (.ref f) = true) (hb : Binds X.K fd ps []) (ha : PA X (e :: es) (Ta (kx X Tb) (E.args ms))) (hn : ms.length = n := by rfl) (hdb : (x == ("__debug__" : Str)) = false := by decide) (he : starEach (e :: es) X.env = (false, eval e X.env) :: starEach es X.env := by rfl)
    (hpl : (backTo pos (starEach es X.env)).any (·.1) = false := by rfl) : PE X (.Call (.Name x p) (e :: es) [] pos) (Te (kx X Tb) (E.call mf ms)) :=
  pe_imp (pe_call G hr hg hm hk hb .nil pass0 ha hdb he hpl) (call_go (es := es) hn)

/-! ### built-ins by values -/
inductive Rvs (K : Kx) (F : Hp) (rho : List Addr) (om : Nat → Option Addr) : List D → List V → Prop
  | nil : Rvs K F rho om [] []
  | cons {d : D} {v : V} {ds : List D} {vs : List V} : Rv K F rho om d v → Rvs K F rho om ds vs → Rvs K F rho om (d :: ds) (v :: vs)
theorem Rps.rvs {K : Kx} {F : Hp} {rho : List Addr} {om : Nat → Option Addr} : ∀ {ds : List D} {vs : List V}, Rps K F rho ds vs → Rvs K F rho om ds vs
  | _, _, .nil => .nil
  | _, _, .cons h r => .cons (.pure h) (Rps.rvs r)
def CallV (K : Kx) (r : List V → Hp → VK → Prop) (f : List D → Z → Option D) : Prop :=
  ∀ {B : Bs} {F : Hp} {rho : List Addr} {om : Nat → Option Addr} {z : Z} {σ : L2.St} {H : Hp} {xs : List D} {vs : List V} {d : D}, Rl K B F rho om z σ H → Rvs K F rho om xs vs → f xs z = some d →
    ∀ Q : VK, (∀ F' H' v, Same F F' → Rl K B F' rho om z σ H' → Rv K F' rho om d v → Q v H') → r vs H Q
theorem blt1_go {K : Kx} {r : List V → Hp → VK → Prop} {f : List D → Z → Option D} (hv : CallV K r f) {m : M D} : ∀ σ H Q, Te K (E.blt f [m]) σ H Q → tCB r (tCons (Te K m) tNil) σ H Q := by
  rintro σ H Q ⟨B, F, rho, om, z, g⟩
  have g : Go K (rV K) B F rho om (bnd m fun x => fun z => match f [x] z with | none => none | some d => some (d, z)) z σ H Q := g
  refine (g.bnd.imp fun _ _ H1 _ _ v _ _ _ _ _ ⟨F2, rho2, z2, x, eg1, s1, p1, r1, g1⟩ => ?_).tx (R := rV K)
  obtain ⟨R, d, z4, e, k⟩ := g1
  dsimp only at e
  split at e
  · cases e
  · rename_i d' hd
    cases e
    exact hv R (.cons r1 .nil) hd Q fun F' H' v s R' q => k F' rho2 H' v s (List.prefix_refl _) R' q
theorem blt2_go {K : Kx} {r : List V → Hp → VK → Prop} {f : List D → Z → Option D} (hv : CallV K r f) {m m2 : M D} {ms : List (M D)} : ∀ σ H Q, Te K (E.blt f (m :: m2 :: ms)) σ H Q → tCB r (Ta K (E.args (m :: m2 :: ms))) σ H Q := by
  rintro σ H Q ⟨B, F, rho, om, z, g⟩
  have g : Go K (rV K) B F rho om (bnd (E.args (m :: m2 :: ms)) fun xs => fun z => match f xs z with | none => none | some d => some (d, z)) z σ H Q := g
  refine (g.bnd.imp fun _ _ H1 _ _ v _ _ _ _ _ ⟨F2, rho2, z2, x, eg1, s1, p1, r1, g1⟩ => ?_).tx (R := rA K)
  obtain ⟨R, d, z4, e, k⟩ := g1
  dsimp only at e
  split at e
  · cases e
  · rename_i d' hd
    cases e
    exact hv R r1.rvs hd Q fun F' H' v s R' q => k F' rho2 H' v s (List.prefix_refl _) R' q
structure CallM (X : Cx) (g : Value) (f : List D → Z → Option D) : Prop where
  rl : ∃ r, CallR X g r ∧ ∀ Tb, CallV (kx X Tb) r f
theorem me_blt1 {id : String} {f : List D → Z → Option D} {x : Str} {p pos : Pos} {e : Expr} {m : M D} (hc : CallM X (.builtin id) f) (hg : Gl X x) (hm : X.mg x = none) (hv : bootBuiltins x = some (.builtin id)) (ha : PE X e (Te (kx X Tb) m)) (hn : x ≠ "__name__" := by decide) (hdb : (x == ("__debug__" : Str)) = false := by decide)
    (he : starEach [e] X.env = (false, eval e X.env) :: starEach [] X.env := by rfl) (hpl : (backTo pos (starEach [] X.env)).any (·.1) = false := by rfl) : PE X (.Call (.Name x p) [e] [] pos) (Te (kx X Tb) (E.blt f [m])) := by
  obtain ⟨r, h1, h2⟩ := hc.rl
  exact pe_imp (pe_callB h1 hg hm hv (pa_cons ha pa_nil he) hn hdb he hpl) (blt1_go (h2 _))
theorem me_blt2 {id : String} {f : List D → Z → Option D} {x : Str} {p pos : Pos} {e e2 : Expr} {es : List Expr} {m m2 : M D} {ms : List (M D)} (hc : CallM X (.builtin id) f) (hg : Gl X x) (hm : X.mg x = none) (hv : bootBuiltins x = some (.builtin id)) (ha : PA X (e :: e2 :: es) (Ta (kx X Tb) (E.args (m :: m2 :: ms)))) (hn : x ≠ "__name__" := by decide) (hdb : (x == ("__debug__" : Str)) = false := by decide)
    (he : starEach (e :: e2 :: es) X.env = (false, eval e X.env) :: starEach (e2 :: es) X.env := by rfl) (hpl : (backTo pos (starEach (e2 :: es) X.env)).any (·.1) = false := by rfl) : PE X (.Call (.Name x p) (e :: e2 :: es) [] pos) (Te (kx X Tb) (E.blt f (m :: m2 :: ms))) := by
  obtain ⟨r, h1, h2⟩ := hc.rl
  exact pe_imp (pe_callB h1 hg hm hv ha hn hdb he hpl) (blt2_go (h2 _))
theorem me_ty1 {T : String} {f : List D → Z → Option D} {x : Str} {p pos : Pos} {e : Expr} {m : M D} (hc : CallM X (.type T) f) (hg : Gl X x) (hm : X.mg x = none) (hv : bootBuiltins x = some (.type T)) (ha : PE X e (Te (kx X Tb) m)) (hn : x ≠ "__name__" := by decide) (hdb : (x == ("__debug__" : Str)) = false := by decide)
    (he : starEach [e] X.env = (false, eval e X.env) :: starEach [] X.env := by rfl) (hpl : (backTo pos (starEach [] X.env)).any (·.1) = false := by rfl) : PE X (.Call (.Name x p) [e] [] pos) (Te (kx X Tb) (E.blt f [m])) := by
  obtain ⟨r, h1, h2⟩ := hc.rl
  exact pe_imp (pe_callTy h1 hg hm hv (pa_cons ha pa_nil he) hn hdb he hpl) (blt1_go (h2 _))
theorem rvs1 {K : Kx} {F : Hp} {rho : List Addr} {om : Nat → Option Addr} {x : D} {vs : List V} (r : Rvs K F rho om [x] vs) : ∃ v, vs = [v] ∧ Rv K F rho om x v := by
  cases r with
  | cons r t =>
    cases t
    exact ⟨_, rfl, r⟩
theorem rvs2 {K : Kx} {F : Hp} {rho : List Addr} {om : Nat → Option Addr} {x y : D} {vs : List V} (r : Rvs K F rho om [x, y] vs) : ∃ v w, vs = [v, w] ∧ Rv K F rho om x v ∧ Rv K F rho om y w := by
  cases r with
  | cons r t =>
    cases t with
    | cons r2 t =>
      cases t
      exact ⟨_, _, rfl, r, r2⟩
theorem rv_int {K : Kx} {F : Hp} {rho : List Addr} {om : Nat → Option Addr} {i : Int} {v : V} (r : Rv K F rho om (.int i) v) : v = .int i := by
  cases r with
  | pure r =>
    cases r
    rfl
theorem f_len : CallM X (.builtin "len") F.len := by
  refine ⟨_, call_len_seq, ?_⟩
  intro Tb B F rho om z σ H xs vs d R r e Q k
  unfold Mi.F.len at e
  split at e
  · obtain ⟨v, rfl, rv⟩ := rvs1 r
    split at e
    · rename_i t ds hc
      cases e
      obtain ⟨a, ys, rfl, q, h⟩ := cont_ok R rv hc
      refine ⟨a, ys, rfl, ?_, ?_⟩
      · rcases h with ⟨_, h⟩ | ⟨_, h⟩
        · exact .inl h
        · exact .inr h
      · rw [← q.length]
        exact k F H _ (Same.refl F) R (.pure (.int _))
    · cases e
  · cases e
theorem f_abs : CallM X (.builtin "abs") F.abs := by
  refine ⟨_, call_abs, ?_⟩
  intro Tb B F rho om z σ H xs vs d R r e Q k
  unfold Mi.F.abs at e
  split at e
  · cases e
    obtain ⟨v, rfl, rv⟩ := rvs1 r
    obtain rfl := rv_int rv
    exact ⟨_, rfl, k F H _ (Same.refl F) R (.pure (.int _))⟩
  · cases e
theorem f_max2 (hc : X.calm = true) : CallM X (.builtin "max") F.max2 := by
  refine ⟨_, call_max2 hc, ?_⟩
  intro Tb B F rho om z σ H xs vs d R r e Q k
  unfold Mi.F.max2 at e
  split at e
  · cases e
    obtain ⟨v, w, rfl, rv, rw'⟩ := rvs2 r
    obtain rfl := rv_int rv
    obtain rfl := rv_int rw'
    exact ⟨_, _, rfl, k F H _ (Same.refl F) R (.pure (.int _))⟩
  · cases e
theorem f_min2 (hc : X.calm = true) : CallM X (.builtin "min") F.min2 := by
  refine ⟨_, call_min2 hc, ?_⟩
  intro Tb B F rho om z σ H xs vs d R r e Q k
  unfold Mi.F.min2 at e
  split at e
  · cases e
    obtain ⟨v, w, rfl, rv, rw'⟩ := rvs2 r
    obtain rfl := rv_int rv
    obtain rfl := rv_int rw'
    exact ⟨_, _, rfl, k F H _ (Same.refl F) R (.pure (.int _))⟩
  · cases e
theorem f_int1 : CallM X (.type "int") F.int1 := by
  refine ⟨_, call_int1, ?_⟩
  intro Tb B F rho om z σ H xs vs d R r e Q k
  unfold Mi.F.int1 at e
  split at e
  · cases e
    obtain ⟨v, rfl, rv⟩ := rvs1 r
    obtain rfl := rv_int rv
    exact .inl ⟨_, rfl, k F H _ (Same.refl F) R (.pure (.int _))⟩
  · cases e
theorem cont_tup {d : D} {z : Z} {ds : List D} (h : cont d z = some (true, ds)) : d = .tup ds ∨ d = .kt ds := by
  unfold cont at h
  split at h
  · cases h
  · cases h
    exact .inl rfl
  · cases h
    exact .inr rfl
  · cases h
  · split at h <;> cases h
  · split at h <;> cases h
  · cases h
theorem f_tuple : CallM X (.type "tuple") F.tuple := by
  refine ⟨_, call_tuple_of, ?_⟩
  intro Tb B F rho om z σ H xs vs d R r e Q k
  unfold Mi.F.tuple at e
  split at e
  · cases e
  · rename_i hk
    obtain ⟨v, rfl, rv⟩ := rvs1 r
    split at e
    · rename_i t ds hc
      cases e
      obtain ⟨a, ys, rfl, q, h⟩ := cont_ok R rv hc
      refine ⟨a, ys, rfl, ?_⟩
      rcases h with ⟨_, h⟩ | ⟨ht, h⟩
      · refine .inl ⟨h, fun l hl => ?_⟩
        obtain ⟨F3, R3, s3, q3⟩ := R.alloc (o := .tup ys) hl
        exact k F3 _ _ s3 R3 (.pure (.tup q3 (q.mono s3 (List.prefix_refl _))))
      · subst ht
        refine .inr ⟨h, k F H _ (Same.refl F) R ?_⟩
        rcases cont_tup hc with rfl | rfl
        · exact rv
        · exact absurd rfl (hk _)
    · cases e
  · cases e
end
end Mi

set_option Elab.async false
set_option linter.all false
set_option maxRecDepth 100000
/-! Mi, part D4: tests, truth, == of data, in; sums; isinstance. -/
namespace Mi
open PySem PySem.Spec PyProof.Rows L2
section
variable {X : Cx} {Tb : Tbs}
/-! ### and, or, not, if .. else -/
theorem mw_and1 {a : Expr} {m : M Bool} {pos : Pos} (ha : PT X a (Tt (kx X Tb) m)) : PW X (.BoolOp .And [a] pos) (Tt (kx X Tb) m) := pw_and1 ha
theorem mw_or1 {a : Expr} {m : M Bool} {pos : Pos} (ha : PT X a (Tt (kx X Tb) m)) : PW X (.BoolOp .Or [a] pos) (Tt (kx X Tb) m) := pw_or1 ha
theorem mw_and {a b : Expr} {rest : List Expr} {m n : M Bool} {pos : Pos} (ha : PT X a (Tt (kx X Tb) m)) (hb : PW X (.BoolOp .And (b :: rest) pos) (Tt (kx X Tb) n)) : PW X (.BoolOp .And (a :: b :: rest) pos) (Tt (kx X Tb) (T.and m n)) := by
  refine pw_imp (pw_and ha hb) fun σ H Q ⟨B, F, rho, om, z, g⟩ => ?_
  refine (g.bnd.imp fun _ _ H1 _ _ c _ _ _ _ _ ⟨F2, rho2, z2, x, eg1, s1, p1, r1, g1⟩ => ?_).tx (R := rB)
  have r1 : c = x := r1
  subst r1
  cases c with
  | true => exact g1.tx
  | false => exact g1.ret false rfl
theorem mw_or {a b : Expr} {rest : List Expr} {m n : M Bool} {pos : Pos} (ha : PT X a (Tt (kx X Tb) m)) (hb : PW X (.BoolOp .Or (b :: rest) pos) (Tt (kx X Tb) n)) : PW X (.BoolOp .Or (a :: b :: rest) pos) (Tt (kx X Tb) (T.or m n)) := by
  refine pw_imp (pw_or ha hb) fun σ H Q ⟨B, F, rho, om, z, g⟩ => ?_
  refine (g.bnd.imp fun _ _ H1 _ _ c _ _ _ _ _ ⟨F2, rho2, z2, x, eg1, s1, p1, r1, g1⟩ => ?_).tx (R := rB)
  have r1 : c = x := r1
  subst r1
  cases c with
  | true => exact g1.ret true rfl
  | false => exact g1.tx
theorem mt_not {a : Expr} {m : M Bool} {pos : Pos} (ha : PT X a (Tt (kx X Tb) m)) : PT X (.UnaryOp .Not a pos) (Tt (kx X Tb) (T.not m)) := by
  refine pt_imp (pt_not ha) fun σ H Q ⟨B, F, rho, om, z, g⟩ => ?_
  refine (g.bnd.imp fun _ _ H1 _ _ c _ _ _ _ _ ⟨F2, rho2, z2, x, eg1, s1, p1, r1, g1⟩ => ?_).tx (R := rB)
  have r1 : c = x := r1
  subst r1
  exact g1.ret _ rfl
theorem me_ite {c a b : Expr} {t : M Bool} {m n : M D} {pos : Pos} (hc : PT X c (Tt (kx X Tb) t)) (ha : PE X a (Te (kx X Tb) m)) (hb : PE X b (Te (kx X Tb) n)) : PE X (.IfExp c a b pos) (Te (kx X Tb) (E.ite t m n)) := by
  refine pe_imp (pe_ifExp hc ha hb) fun σ H Q ⟨B, F, rho, om, z, g⟩ => ?_
  refine (g.bnd.imp fun _ _ H1 _ _ c _ _ _ _ _ ⟨F2, rho2, z2, x, eg1, s1, p1, r1, g1⟩ => ?_).tx (R := rB)
  have r1 : c = x := r1
  subst r1
  cases c with
  | true => exact g1.tx
  | false => exact g1.tx
/-- .. as values -/
theorem me_one {a : Expr} {op} {m : M D} {pos : Pos} (ha : PE X a (Te (kx X Tb) m)) : PE X (.BoolOp op [a] pos) (Te (kx X Tb) m) := pe_one ha
theorem me_and {a b : Expr} {rest : List Expr} {m n : M D} {pos : Pos} (ha : PE X a (Te (kx X Tb) m)) (hb : PE X (.BoolOp .And (b :: rest) pos) (Te (kx X Tb) n)) : PE X (.BoolOp .And (a :: b :: rest) pos) (Te (kx X Tb) (E.and m n)) := by
  refine pe_imp (pe_and ha hb) fun σ H Q ⟨B, F, rho, om, z, g⟩ => ?_
  refine (g.bnd.imp fun _ _ H1 _ _ c _ _ _ _ _ ⟨F2, rho2, z2, x, eg1, s1, p1, r1, g1⟩ => ?_).tx (R := rV (kx X Tb))
  cases r1 with
  | own _ => obtain ⟨_, _, _, e, _⟩ := g1; cases e
  | pure r1 =>
    cases r1 with
    | bl b =>
      refine ⟨b, rfl, ?_⟩
      cases b with
      | true => exact g1.tx
      | false => exact g1.ret _ (.pure (.bl false))
    | _ => obtain ⟨_, _, _, e, _⟩ := g1; cases e
theorem me_or {a b : Expr} {rest : List Expr} {m n : M D} {pos : Pos} (ha : PE X a (Te (kx X Tb) m)) (hb : PE X (.BoolOp .Or (b :: rest) pos) (Te (kx X Tb) n)) : PE X (.BoolOp .Or (a :: b :: rest) pos) (Te (kx X Tb) (E.or m n)) := by
  refine pe_imp (pe_or ha hb) fun σ H Q ⟨B, F, rho, om, z, g⟩ => ?_
  refine (g.bnd.imp fun _ _ H1 _ _ c _ _ _ _ _ ⟨F2, rho2, z2, x, eg1, s1, p1, r1, g1⟩ => ?_).tx (R := rV (kx X Tb))
  cases r1 with
  | own _ => obtain ⟨_, _, _, e, _⟩ := g1; cases e
  | pure r1 =>
    cases r1 with
    | bl b =>
      refine ⟨b, rfl, ?_⟩
      cases b with
      | true => exact g1.ret _ (.pure (.bl true))
      | false => exact g1.tx
    | _ => obtain ⟨_, _, _, e, _⟩ := g1; cases e
theorem me_not {a : Expr} {m : M D} {pos : Pos} (ha : PE X a (Te (kx X Tb) m)) : PE X (.UnaryOp .Not a pos) (Te (kx X Tb) (E.not m)) := by
  refine pe_imp (pe_not ha) fun σ H Q ⟨B, F, rho, om, z, g⟩ => ?_
  refine (g.bnd.imp fun _ _ H1 _ _ c _ _ _ _ _ ⟨F2, rho2, z2, x, eg1, s1, p1, r1, g1⟩ => ?_).tx (R := rV (kx X Tb))
  cases r1 with
  | own _ => obtain ⟨_, _, _, e, _⟩ := g1; cases e
  | pure r1 =>
    cases r1 with
    | bl b => exact ⟨b, rfl, g1.ret _ (.pure (.bl _))⟩
    | _ => obtain ⟨_, _, _, e, _⟩ := g1; cases e
/-- an expression by its truth -/
theorem Rps.isEmpty {K : Kx} {F : Hp} {rho : List Addr} {ds : List D} {vs : List V} (r : Rps K F rho ds vs) : (!ds.isEmpty) = !vs.isEmpty := by cases r <;> rfl
theorem mt_tru {a : Expr} {m : M D} (ha : PE X a (Te (kx X Tb) m)) (he : ∀ whole, isTrue a X.env whole = (do let v ← whole; standAt a.pos; holding [v] (truthy v)) := by intro _; rfl) : PT X a (Tt (kx X Tb) (T.tru m)) := by
  refine pt_imp (pt_truth ha he) fun σ H Q ⟨B, F, rho, om, z, g⟩ => ?_
  refine (g.bnd.imp fun _ _ H1 _ _ v _ _ _ _ _ ⟨F2, rho2, z2, x, eg1, s1, p1, r1, g1⟩ => ?_).tx (R := rV (kx X Tb))
  obtain ⟨R, k, z4, e, kk⟩ := g1
  dsimp only at e
  split at e
  · rename_i k' hk
    cases e
    refine ⟨k, ?_, kk F2 rho2 H1 k (Same.refl _) (List.prefix_refl _) R rfl⟩
    have byc : ∀ {d : D}, (match cont d z2 with | some (_, ds) => some (!ds.isEmpty) | none => none) = some k → Rv (kx X Tb) F2 rho2 om d v → TruV X.K v H1 k := fun {d} e r => by
      split at e
      · rename_i t ds hc
        cases e
        obtain ⟨a, xs, rfl, q, h⟩ := cont_ok R r hc
        rcases h with ⟨_, h⟩ | ⟨_, h⟩
        · exact .inl ⟨xs, h, q.isEmpty⟩
        · exact .inr (.inl ⟨xs, h, q.isEmpty⟩)
      · cases e
    unfold O.tru at hk
    split at hk
    · cases hk
      cases r1 with
      | pure r1 => cases r1; rfl
    · cases hk
      cases r1 with
      | pure r1 => cases r1; rfl
    · cases hk
      cases r1 with
      | pure r1 => cases r1; rfl
    · exact byc hk r1
  · cases e

/-! ### == -/
mutual
theorem toP_ok {K : Kx} {F H : Hp} {rho : List Addr} (e : Same F H) : ∀ {d : D} {v : V} {p : PyData}, O.toP d = some p → Rp K F rho d v → Dp K H v p
  | .non, _, _, h, .non => by cases h; exact .non
  | .bl b, _, _, h, .bl _ => by cases h; exact .bl b
  | .int i, _, _, h, .int _ => by cases h; exact .int i
  | .str x, _, _, h, .str _ => by cases h; exact .str x
  | .tup xs, _, _, h, .tup q r => by
    rw [O.toP] at h
    cases hp : O.toPs xs with
    | none => rw [hp] at h; cases h
    | some ps =>
      rw [hp] at h
      cases h
      exact .tup (SqT.of (e _ _ q)) (toPs_ok e hp r)
  | .kt xs, _, _, h, .kt q r => by
    rw [O.toP] at h
    cases hp : O.toPs xs with
    | none => rw [hp] at h; cases h
    | some ps =>
      rw [hp] at h
      cases h
      exact .tup (Same.sqt e q) (toPs_ok e hp r)
  | .lst xs, _, _, h, .lst q r => by
    rw [O.toP] at h
    cases hp : O.toPs xs with
    | none => rw [hp] at h; cases h
    | some ps =>
      rw [hp] at h
      cases h
      exact .lst (SqL.of (e _ _ q)) (toPs_ok e hp r)
  | .scr xs, _, _, h, .scr q r => by
    rw [O.toP] at h
    cases hp : O.toPs xs with
    | none => rw [hp] at h; cases h
    | some ps =>
      rw [hp] at h
      cases h
      exact .lst (e.seq q) (toPs_ok e hp r)
  | .ref n, _, _, h, .ref _ => by rw [O.toP] at h <;> first | cases h | (intros; contradiction)
  | .dk n, _, _, h, _ => by rw [O.toP] at h <;> first | cases h | (intros; contradiction)
  | .dt n, _, _, h, _ => by rw [O.toP] at h <;> first | cases h | (intros; contradiction)
  | .ins n fs, _, _, h, _ => by rw [O.toP] at h <;> first | cases h | (intros; contradiction)
theorem toPs_ok {K : Kx} {F H : Hp} {rho : List Addr} (e : Same F H) : ∀ {ds : List D} {vs : List V} {ps : List PyData}, O.toPs ds = some ps → Rps K F rho ds vs → DpAll K H vs ps
  | [], _, _, h, .nil => by cases h; exact .nil
  | d :: ds, _, _, h, .cons q r => by
    rw [O.toPs] at h
    split at h
    · rename_i a as h1 h2
      cases h
      exact .cons (toP_ok e h1 q) (toPs_ok e h2 r)
    · cases h
end
/-- a list that may change, as it stands -/
theorem snap_ok {K : Kx} {B : Bs} {F : Hp} {rho : List Addr} {om : Nat → Option Addr} {z : Z} {σ : L2.St} {H : Hp} {d : D} {v : V} {p : PyData} (R : Rl K B F rho om z σ H) (r : Rv K F rho om d v) (h : O.toP (O.snap d z) = some p) : Dp K H v p := by
  have byc : ∀ {d : D}, O.toP (match cont d z with | some (_, ds) => .lst ds | none => .own 0) = some p → (∀ b ds, cont d z = some (b, ds) → b = false) → Rv K F rho om d v → Dp K H v p := by
    intro d e hb r
    split at e
    · rename_i t ds hc
      obtain ⟨a, xs, rfl, q, h9⟩ := cont_ok R r hc
      have ht := hb _ _ hc
      rcases h9 with ⟨_, h8⟩ | ⟨h7, h8⟩
      · rw [O.toP] at e
        cases hp : O.toPs ds with
        | none => rw [hp] at e; cases e
        | some ps =>
          rw [hp] at e
          cases e
          exact .lst h8 (toPs_ok R.rh.fro hp q)
      · rw [ht] at h7
        cases h7
    · cases e
  cases d with
  | own i =>
    have hb : ∀ b ds, cont (.own i) z = some (b, ds) → b = false := by
      intro b ds hc
      have hc : (match z.s[i]? with | some (.own (.lst xs)) => some (false, xs) | _ => none) = some (b, ds) := hc
      split at hc
      · cases hc
        rfl
      · cases hc
    exact byc (d := .own i) h hb r
  | ref n =>
    have hb : ∀ b ds, cont (.ref n) z = some (b, ds) → b = false := by
      intro b ds hc
      have hc : (match z.h[n]? with | some (.lst xs) => some (false, xs) | _ => none) = some (b, ds) := hc
      split at hc
      · cases hc
        rfl
      · cases hc
    exact byc (d := .ref n) h hb r
  | _ =>
    cases r with
    | pure r => exact toP_ok R.rh.fro h r
theorem OpR.either {f : Value → Value → Sem Value} {r r' : R2} (h : OpR X f r) (h' : OpR X f r') : OpR X f fun x y H Q => r x y H Q ∨ r' x y H Q := by
  intro pins s σ H x y v u Q I rx ry e
  rcases e with e | e
  · exact h pins s σ H x y v u Q I rx ry e
  · exact h' pins s σ H x y v u Q I rx ry e
theorem eqP_ok {K : Kx} {B : Bs} {F : Hp} {rho : List Addr} {om : Nat → Option Addr} {z : Z} {σ : L2.St} {H : Hp} {x y : D} {v w : V} {k : Bool} (R : Rl K B F rho om z σ H) (rx : Rv K F rho om x v) (ry : Rv K F rho om y w) (h : O.eqP x y z = some k) :
    (∃ a b, v = .str a ∧ w = .str b ∧ k = decide (a = b)) ∨ ∃ d e, Dp K H v d ∧ Dp K H w e ∧ SeqAt.shaped d = true ∧ SeqAt.shaped e = true ∧ k = PyData.eqv d e := by
  unfold O.eqP at h
  split at h
  · rename_i a b
    cases h
    refine .inl ⟨a, b, ?_, ?_, rfl⟩
    · cases rx with | pure r => cases r; rfl
    · cases ry with | pure r => cases r; rfl
  · refine .inr ?_
    unfold O.eqD at h
    split at h
    · rename_i a b ha hb
      split at h
      · rename_i c
        cases h
        exact ⟨a, b, snap_ok R rx ha, snap_ok R ry hb, c.1, c.2, rfl⟩
      · cases h
    · cases h
theorem str_dec {a b : Str} : decide (V.str a = V.str b) = decide (a = b) := by
  by_cases h : a = b
  · subst h; simp
  · rw [decide_eq_false h, decide_eq_false (fun e => h (by cases e; rfl))]
theorem o_eq (hu : X.A.units + 64 < cLine) : OpM X (compareOp .Eq) O.eq := by
  refine ⟨_, OpR.either op_eq (op_eqD hu), ?_⟩
  intro Tb B F rho om z σ H x y xv yv d R rx ry e Q k
  unfold O.eq at e
  cases hk : O.eqP x y z with
  | none => rw [hk] at e; cases e
  | some b =>
    rw [hk] at e
    cases e
    rcases eqP_ok R rx ry hk with ⟨a, b, rfl, rfl, rfl⟩ | ⟨d, e, h1, h2, h3, h4, h5⟩
    · refine .inl ⟨rfl, ?_⟩
      rw [str_dec]
      exact k F H _ (Same.refl F) R (.pure (.bl _))
    · subst h5
      exact .inr ⟨d, e, h1, h2, h3, h4, k F H _ (Same.refl F) R (.pure (.bl _))⟩
theorem o_ne (hu : X.A.units + 64 < cLine) : OpM X (compareOp .NotEq) O.ne := by
  refine ⟨_, OpR.either op_ne (op_neD hu), ?_⟩
  intro Tb B F rho om z σ H x y xv yv d R rx ry e Q k
  unfold O.ne at e
  cases hk : O.eqP x y z with
  | none => rw [hk] at e; cases e
  | some b =>
    rw [hk] at e
    cases e
    rcases eqP_ok R rx ry hk with ⟨a, b, rfl, rfl, rfl⟩ | ⟨d, e, h1, h2, h3, h4, h5⟩
    · refine .inl ⟨rfl, ?_⟩
      rw [str_dec]
      exact k F H _ (Same.refl F) R (.pure (.bl _))
    · subst h5
      exact .inr ⟨d, e, h1, h2, h3, h4, k F H _ (Same.refl F) R (.pure (.bl _))⟩
end
end Mi

set_option Elab.async false
set_option linter.all false
set_option maxRecDepth 100000
/-! Mi, part D5: in; sums; isinstance; changes of a list; new lists. -/
namespace Mi
open PySem PySem.Spec PyProof.Rows L2
section
variable {X : Cx} {Tb : Tbs}
/-! ### in -/
theorem flat_rp {K : Kx} {F : Hp} {rho : List Addr} {d : D} {v : V} (r : Rp K F rho d v) (h : O.flat d = true) : flatV v = true := by
  cases r <;> first | rfl | cases h
theorem eqF_rp {K : Kx} {F : Hp} {rho : List Addr} {d e : D} {v w : V} (r : Rp K F rho d v) (q : Rp K F rho e w) (h : O.flat d = true) (h2 : O.flat e = true) : eqV v w = O.eqF d e := by
  cases r <;> try (cases h; done)
  all_goals cases q <;> first | rfl | (cases h2; done)
theorem all_flat {K : Kx} {F : Hp} {rho : List Addr} : ∀ {ds : List D} {vs : List V}, Rps K F rho ds vs → ds.all O.flat = true → vs.all flatV = true
  | _, _, .nil, _ => rfl
  | _, _, .cons r q, h => by
    rw [List.all_cons, Bool.and_eq_true] at h
    rw [List.all_cons, flat_rp r h.1, all_flat q h.2]
    rfl
theorem any_eq {K : Kx} {F : Hp} {rho : List Addr} {x : D} {xv : V} (rx : Rp K F rho x xv) (hx : O.flat x = true) : ∀ {ds : List D} {vs : List V}, Rps K F rho ds vs → ds.all O.flat = true → inV xv vs = ds.any fun y => O.eqF y x
  | _, _, .nil, _ => rfl
  | _, _, .cons r q, h => by
    rw [List.all_cons, Bool.and_eq_true] at h
    have ih := any_eq rx hx q h.2
    unfold inV at ih ⊢
    rw [List.any_cons, List.any_cons, ih, eqF_rp r rx h.1 hx]
theorem o_in : OpM X (compareOp .In) O.isIn := by
  refine ⟨_, op_in_seq, ?_⟩
  intro Tb B F rho om z σ H x y xv yv d R rx ry e Q k
  unfold O.isIn at e
  split at e
  · rename_i t ds hc
    split at e
    · rename_i c
      cases e
      obtain ⟨a, xs, rfl, q, h⟩ := cont_ok R ry hc
      cases rx with
      | own _ => cases c.1
      | pure rx =>
        refine ⟨a, xs, rfl, ?_, flat_rp rx c.1, all_flat q c.2, ?_⟩
        · rcases h with ⟨_, h⟩ | ⟨_, h⟩
          · exact .inl h
          · exact .inr h
        · rw [any_eq rx c.1 q c.2]
          exact k F H _ (Same.refl F) R (.pure (.bl _))
    · cases e
  · cases e
theorem o_notIn : OpM X (compareOp .NotIn) O.notIn := by
  refine ⟨_, op_notIn_seq, ?_⟩
  intro Tb B F rho om z σ H x y xv yv d R rx ry e Q k
  unfold O.notIn at e
  split at e
  · rename_i t ds hc
    split at e
    · rename_i c
      cases e
      obtain ⟨a, xs, rfl, q, h⟩ := cont_ok R ry hc
      cases rx with
      | own _ => cases c.1
      | pure rx =>
        refine ⟨a, xs, rfl, ?_, flat_rp rx c.1, all_flat q c.2, ?_⟩
        · rcases h with ⟨_, h⟩ | ⟨_, h⟩
          · exact .inl h
          · exact .inr h
        · rw [any_eq rx c.1 q c.2]
          exact k F H _ (Same.refl F) R (.pure (.bl _))
    · cases e
  · cases e

/-! ### lists of ints, of bools -/
theorem ofInts_ok {K : Kx} {F : Hp} {rho : List Addr} : ∀ {ds : List D} {vs : List V} {ns : List Int}, Mi.F.ofInts ds = some ns → Rps K F rho ds vs → vs = ns.map V.int
  | [], _, _, h, .nil => by cases h; rfl
  | d :: ds, _, _, h, .cons r q => by
    cases d <;> try (cases h; done)
    rename_i i
    rw [Mi.F.ofInts] at h
    cases hn : Mi.F.ofInts ds with
    | none => rw [hn] at h; cases h
    | some ns =>
      rw [hn] at h
      cases h
      cases r
      rw [List.map_cons, ofInts_ok hn q]
theorem ofBools_ok {K : Kx} {F : Hp} {rho : List Addr} : ∀ {ds : List D} {vs : List V} {ns : List Bool}, Mi.F.ofBools ds = some ns → Rps K F rho ds vs → vs = ns.map V.bl
  | [], _, _, h, .nil => by cases h; rfl
  | d :: ds, _, _, h, .cons r q => by
    cases d <;> try (cases h; done)
    rename_i i
    rw [Mi.F.ofBools] at h
    cases hn : Mi.F.ofBools ds with
    | none => rw [hn] at h; cases h
    | some ns =>
      rw [hn] at h
      cases h
      cases r
      rw [List.map_cons, ofBools_ok hn q]
theorem lstI_ok {K : Kx} {B : Bs} {F : Hp} {rho : List Addr} {om : Nat → Option Addr} {z : Z} {σ : L2.St} {H : Hp} {d : D} {v : V} {ns : List Int} (R : Rl K B F rho om z σ H) (r : Rv K F rho om d v) (h : Mi.F.lstI d z = some ns) : ∃ a, v = .ref a ∧ SqL K H a (ns.map V.int) := by
  unfold Mi.F.lstI at h
  split at h
  · rename_i ds hc
    obtain ⟨a, xs, rfl, q, h9⟩ := cont_ok R r hc
    obtain rfl := ofInts_ok h q
    rcases h9 with ⟨_, h9⟩ | ⟨h8, _⟩
    · exact ⟨a, rfl, h9⟩
    · cases h8
  · cases h
theorem lstB_ok {K : Kx} {B : Bs} {F : Hp} {rho : List Addr} {om : Nat → Option Addr} {z : Z} {σ : L2.St} {H : Hp} {d : D} {v : V} {ns : List Bool} (R : Rl K B F rho om z σ H) (r : Rv K F rho om d v) (h : Mi.F.lstB d z = some ns) : ∃ a, v = .ref a ∧ SqL K H a (ns.map V.bl) := by
  unfold Mi.F.lstB at h
  split at h
  · rename_i ds hc
    obtain ⟨a, xs, rfl, q, h9⟩ := cont_ok R r hc
    obtain rfl := ofBools_ok h q
    rcases h9 with ⟨_, h9⟩ | ⟨h8, _⟩
    · exact ⟨a, rfl, h9⟩
    · cases h8
  · cases h
theorem foldl_max : ∀ (xs : List Int) (x : Int), (xs.foldl (fun a b => if a < b then b else a) x ∈ x :: xs) ∧ ∀ y ∈ x :: xs, y ≤ xs.foldl (fun a b => if a < b then b else a) x
  | [], x => ⟨by simp, fun y h => by simp at h; subst h; exact Int.le_refl _⟩
  | b :: xs, x => by
    obtain ⟨h1, h2⟩ := foldl_max xs (if x < b then b else x)
    refine ⟨?_, fun y hy => ?_⟩
    · rw [List.foldl_cons]
      rcases List.mem_cons.mp h1 with h | h
      · rw [h]
        split
        · simp
        · simp
      · exact List.mem_cons_of_mem _ (List.mem_cons_of_mem _ h)
    · rw [List.foldl_cons]
      have h0 := h2 _ List.mem_cons_self
      rcases List.mem_cons.mp hy with h | h
      · subst h
        refine Int.le_trans ?_ h0
        split <;> omega
      · rcases List.mem_cons.mp h with h | h
        · subst h
          refine Int.le_trans ?_ h0
          split <;> omega
        · exact h2 y (List.mem_cons_of_mem _ h)
theorem foldl_min : ∀ (xs : List Int) (x : Int), (xs.foldl (fun a b => if b < a then b else a) x ∈ x :: xs) ∧ ∀ y ∈ x :: xs, xs.foldl (fun a b => if b < a then b else a) x ≤ y
  | [], x => ⟨by simp, fun y h => by simp at h; subst h; exact Int.le_refl _⟩
  | b :: xs, x => by
    obtain ⟨h1, h2⟩ := foldl_min xs (if b < x then b else x)
    refine ⟨?_, fun y hy => ?_⟩
    · rw [List.foldl_cons]
      rcases List.mem_cons.mp h1 with h | h
      · rw [h]
        split
        · simp
        · simp
      · exact List.mem_cons_of_mem _ (List.mem_cons_of_mem _ h)
    · rw [List.foldl_cons]
      have h0 := h2 _ List.mem_cons_self
      rcases List.mem_cons.mp hy with h | h
      · subst h
        refine Int.le_trans h0 ?_
        split <;> omega
      · rcases List.mem_cons.mp h with h | h
        · subst h
          refine Int.le_trans h0 ?_
          split <;> omega
        · exact h2 y (List.mem_cons_of_mem _ h)
theorem f_sum (hc : X.calm = true) : CallM X (.builtin "sum") Mi.F.sum := by
  refine ⟨_, cr_sum hc, ?_⟩
  intro Tb B F rho om z σ H xs vs d R r e Q k
  unfold Mi.F.sum at e
  split at e
  · obtain ⟨v, rfl, rv⟩ := rvs1 r
    rename_i x
    cases hl : Mi.F.lstI x z with
    | none => rw [hl] at e; cases e
    | some ns =>
      rw [hl] at e
      cases e
      obtain ⟨a, rfl, h⟩ := lstI_ok R rv hl
      exact ⟨a, ns, rfl, h, k F H _ (Same.refl F) R (.pure (.int _))⟩
  · cases e
theorem f_max1 (hc : X.calm = true) : CallM X (.builtin "max") Mi.F.max1 := by
  refine ⟨_, cr_max hc, ?_⟩
  intro Tb B F rho om z σ H xs vs d R r e Q k
  unfold Mi.F.max1 at e
  split at e
  · obtain ⟨v, rfl, rv⟩ := rvs1 r
    rename_i x
    split at e
    · rename_i ns hl
      obtain ⟨a, rfl, h⟩ := lstI_ok R rv hl
      cases ns with
      | nil => cases e
      | cons n ns =>
        cases e
        refine ⟨a, n :: ns, rfl, h, Nat.succ_pos _, fun m hm hle => ?_⟩
        obtain ⟨h1, h2⟩ := foldl_max ns n
        have q : m = ns.foldl (fun a b => if a < b then b else a) n := Int.le_antisymm (h2 m hm) (hle _ h1)
        rw [q]
        exact k F H _ (Same.refl F) R (.pure (.int _))
    · cases e
  · cases e
theorem f_min1 (hc : X.calm = true) : CallM X (.builtin "min") Mi.F.min1 := by
  refine ⟨_, cr_min hc, ?_⟩
  intro Tb B F rho om z σ H xs vs d R r e Q k
  unfold Mi.F.min1 at e
  split at e
  · obtain ⟨v, rfl, rv⟩ := rvs1 r
    rename_i x
    split at e
    · rename_i ns hl
      obtain ⟨a, rfl, h⟩ := lstI_ok R rv hl
      cases ns with
      | nil => cases e
      | cons n ns =>
        cases e
        refine ⟨a, n :: ns, rfl, h, Nat.succ_pos _, fun m hm hle => ?_⟩
        obtain ⟨h1, h2⟩ := foldl_min ns n
        have q : m = ns.foldl (fun a b => if b < a then b else a) n := Int.le_antisymm (hle _ h1) (h2 m hm)
        rw [q]
        exact k F H _ (Same.refl F) R (.pure (.int _))
    · cases e
  · cases e
theorem f_all1 (hc : X.calm = true) : CallM X (.builtin "all") Mi.F.all1 := by
  refine ⟨_, cr_all hc, ?_⟩
  intro Tb B F rho om z σ H xs vs d R r e Q k
  unfold Mi.F.all1 at e
  split at e
  · obtain ⟨v, rfl, rv⟩ := rvs1 r
    rename_i x
    cases hl : Mi.F.lstB x z with
    | none => rw [hl] at e; cases e
    | some ns =>
      rw [hl] at e
      cases e
      obtain ⟨a, rfl, h⟩ := lstB_ok R rv hl
      exact ⟨a, ns, rfl, h, k F H _ (Same.refl F) R (.pure (.bl _))⟩
  · cases e
theorem f_any1 (hc : X.calm = true) : CallM X (.builtin "any") Mi.F.any1 := by
  refine ⟨_, cr_any hc, ?_⟩
  intro Tb B F rho om z σ H xs vs d R r e Q k
  unfold Mi.F.any1 at e
  split at e
  · obtain ⟨v, rfl, rv⟩ := rvs1 r
    rename_i x
    cases hl : Mi.F.lstB x z with
    | none => rw [hl] at e; cases e
    | some ns =>
      rw [hl] at e
      cases e
      obtain ⟨a, rfl, h⟩ := lstB_ok R rv hl
      exact ⟨a, ns, rfl, h, k F H _ (Same.refl F) R (.pure (.bl _))⟩
  · cases e

/-! ### isinstance(x, T), T a built-in class -/
theorem tyName_ok {K : Kx} {B : Bs} {F : Hp} {rho : List Addr} {om : Nat → Option Addr} {z : Z} {σ : L2.St} {H : Hp} {d : D} {v : V} {t : String} (R : Rl K B F rho om z σ H) (r : Rv K F rho om d v) (h : Mi.F.tyName d z = some t) : TyX K H v (.type t) := by
  cases r with
  | pure r =>
    cases r with
    | non => cases h; exact .base .non
    | bl b => cases h; exact .base (.bl b)
    | int b => cases h; exact .base (.int b)
    | str b => cases h; exact .base (.str b)
    | tup q _ =>
      cases h
      exact .base (.tup (R.rh.fro _ _ q))
    | kt q _ =>
      cases h
      rcases Same.sqt R.rh.fro q with (q | ⟨o, q⟩) | ⟨o, its, n, q, c, _⟩
      · exact .base (.tup q)
      · exact .fTuple q
      · exact .kTuple q c
    | lst q _ =>
      cases h
      exact .base (.lst (R.rh.fro _ _ q))
    | @ref n a q =>
      have h : (match z.h[n]? with | some (.lst _) => some "list" | _ => none) = some t := h
      split at h
      · rename_i xs hx
        cases h
        obtain ⟨ys, h1, h2⟩ := R.rh.obs n _ a hx q
        exact .base (.lst h1)
      · cases h
    | _ => cases h
  | @own i a q =>
    have h : (match z.s[i]? with | some (.own (.lst _)) => some "list" | _ => none) = some t := h
    split at h
    · rename_i xs hx
      cases h
      obtain ⟨a', h1, _, h2⟩ := R.sl i _ hx
      rw [q] at h1
      cases h1
      obtain ⟨ys, h3, h4⟩ := h2
      exact .base (.lst h3)
    · cases h
/-- the answer: T the class's name -/
def F.isi (T : String) (x : D) (z : Z) : Option D := match Mi.F.tyName x z with
  | some t => (kitB t T).map .bl
  | none => none
theorem isi_go {K : Kx} {T : String} {m : M D} : ∀ σ H Q, Te K (E.un (Mi.F.isi T) m) σ H Q → tCB (rIsi K) (tCons (Te K m) (tCons (tC (.ty T)) tNil)) σ H Q := by
  rintro σ H Q ⟨B, F, rho, om, z, g⟩
  refine (g.bnd.imp fun _ _ H1 _ _ v _ _ _ _ _ ⟨F2, rho2, z2, x, eg1, s1, p1, r1, g1⟩ => ?_).tx (R := rV K)
  obtain ⟨R, d, z4, e, k⟩ := g1
  dsimp only at e
  split at e
  · cases e
  · rename_i d' hd
    cases e
    unfold Mi.F.isi at hd
    split at hd
    · rename_i t ht
      cases hk : kitB t T with
      | none => rw [hk] at hd; cases hd
      | some b =>
        rw [hk] at hd
        cases hd
        show rIsi K [v, .ty T] H1 Q
        exact ⟨v, .ty T, .type t, .type T, b, rfl, .ty T, tyName_ok R r1 ht, kit_ty hk, k F2 rho2 H1 _ (Same.refl _) (List.prefix_refl _) R (.pure (.bl b))⟩
    · cases hd
theorem me_isi {T : String} {Tn : Str} {p p2 pos : Pos} {e : Expr} {m : M D} (hg : Gl X "isinstance") (hm : X.mg "isinstance" = none) (hg2 : Gl X Tn) (hm2 : X.mg Tn = none) (hv2 : bootBuiltins Tn = some (.type T)) (ha : PE X e (Te (kx X Tb) m)) (hn : Tn ≠ "__name__" := by decide) (hdb : (Tn == ("__debug__" : Str)) = false := by decide)
    (hv : bootBuiltins "isinstance" = some (.builtin "isinstance") := by decide +kernel) (he : starEach [e, .Name Tn p2] X.env = (false, eval e X.env) :: starEach [.Name Tn p2] X.env := by rfl) (he2 : starEach [.Name Tn p2] X.env = (false, eval (.Name Tn p2) X.env) :: starEach [] X.env := by rfl)
    (hpl : (backTo pos (starEach [.Name Tn p2] X.env)).any (·.1) = false := by rfl) : PE X (.Call (.Name "isinstance" p) [e, .Name Tn p2] [] pos) (Te (kx X Tb) (E.un (Mi.F.isi T) m)) :=
  pe_imp (pe_callB call_isi hg hm hv (pa_cons ha (pa_cons (pe_bltn hg2 hm2 hv2 (v := .ty T) rfl hn hdb) pa_nil he2) he) (by decide) (by decide) he hpl) isi_go

/-! ### new lists from lists -/
theorem mf_list {p pos : Pos} {e : Expr} {m : M D} (hg : Gl X "list") (hm : X.mg "list" = none) (ha : PE X e (Te (kx X Tb) m)) (hv : bootBuiltins "list" = some (.type "list") := by decide +kernel)
    (he : starEach [e] X.env = (false, eval e X.env) :: starEach [] X.env := by rfl) (hpl : (backTo pos (starEach [] X.env)).any (·.1) = false := by rfl) : PE X (.Call (.Name "list" p) [e] [] pos) (Tf (kx X Tb) (N.ofSeq m)) := by
  refine pe_imp (pe_callTy call_list_of hg hm hv (pa_cons ha pa_nil he) (by decide) (by decide) he hpl) fun σ H Q ⟨B, F, rho, om, z, g⟩ => ?_
  refine (g.bnd.imp fun _ _ H1 _ _ v _ _ _ _ _ ⟨F2, rho2, z2, x, eg1, s1, p1, r1, g1⟩ => ?_).tx (R := rV (kx X Tb))
  obtain ⟨R, d, z4, e, k⟩ := g1
  dsimp only at e
  split at e
  · rename_i t ds hc
    cases e
    obtain ⟨a, xs, rfl, q, h⟩ := cont_ok R r1 hc
    refine ⟨a, xs, rfl, ?_, fun l hl => ?_⟩
    · rcases h with ⟨_, h⟩ | ⟨_, h⟩
      · exact .inl h
      · exact .inr h
    · obtain ⟨R2, f2⟩ := R.new (o := .lst xs) hl
      exact k F2 rho2 _ _ (Same.refl _) (List.prefix_refl _) R2 ⟨l, xs, rfl, upd_same, f2, q⟩
  · cases e
theorem mo_none : PO X none (To (kx X Tb) (N.part none)) := po_imp po_none fun σ H Q ⟨B, F, rho, om, z, g⟩ => g.ret none rfl
theorem mo_some {e : Expr} {m : M D} (h : PE X e (Te (kx X Tb) m)) : PO X (some e) (To (kx X Tb) (N.part (some m))) := by
  refine po_imp (po_some h) fun σ H Q ⟨B, F, rho, om, z, g⟩ => ?_
  refine (g.bnd.imp fun _ _ H1 _ _ v _ _ _ _ _ ⟨F2, rho2, z2, x, eg1, s1, p1, r1, g1⟩ => ?_).tx (R := rV (kx X Tb))
  cases r1 with
  | own _ => obtain ⟨_, _, _, e, _⟩ := g1; cases e
  | pure r1 =>
    cases r1 with
    | int i => exact ⟨i, rfl, g1.ret _ rfl⟩
    | _ => obtain ⟨_, _, _, e, _⟩ := g1; cases e
theorem cut_rps {K : Kx} {F : Hp} {rho : List Addr} {ds : List D} {vs : List V} (r : Rps K F rho ds vs) (lo hi : Option Int) : Rps K F rho (N.cutL ds lo hi) (cutV vs lo hi) := by
  unfold N.cutL cutV
  rw [r.length]
  exact (r.drop _).take _
theorem mf_slice {e : Expr} {lo hi : Option Expr} {p2 pos : Pos} {m : M D} {ml mh : Option (M D)} (he : PE X e (Te (kx X Tb) m)) (hl : PO X lo (To (kx X Tb) (N.part ml))) (hu : PO X hi (To (kx X Tb) (N.part mh))) : PE X (.Subscript e (.Slice lo hi none p2) pos) (Tf (kx X Tb) (N.slice m ml mh)) := by
  refine pe_imp (pe_slice sl_list he hl hu) fun σ H Q ⟨B, F, rho, om, z, g⟩ => ?_
  refine (g.bnd.imp fun _ _ H1 _ _ v _ _ _ _ _ ⟨F2, rho2, z2, x, eg1, s1, p1, r1, g1⟩ => ?_).tx (R := rV (kx X Tb))
  refine (g1.bnd.imp fun _ _ H3 _ _ l _ _ _ _ _ ⟨F4, rho4, z4, l', eg2, s2, p2, r2, g2⟩ => ?_).tx (R := rO)
  refine (g2.bnd.imp fun _ _ H5 _ _ u _ _ _ _ _ ⟨F6, rho6, z6, u', eg3, s3, p3, r3, g3⟩ => ?_).tx (R := rO)
  have r2 : l = l' := r2
  have r3 : u = u' := r3
  subst r2 r3
  obtain ⟨R, d, z7, e, k⟩ := g3
  dsimp only at e
  split at e
  · rename_i ds hc
    cases e
    obtain ⟨a, xs, rfl, q, h⟩ := cont_ok R ((r1.mono s2 p2).mono s3 p3) hc
    rcases h with ⟨_, h⟩ | ⟨h8, _⟩
    · refine ⟨a, xs, rfl, h, fun p hp => ?_⟩
      obtain ⟨R2, f2⟩ := R.new (o := .lst (cutV xs l u)) hp
      exact k F6 rho6 _ _ (Same.refl _) (List.prefix_refl _) R2 ⟨p, _, rfl, upd_same, f2, cut_rps q l u⟩
    · cases h8
  · cases e
/-- a list that is no module's constant -/
theorem cont_lst {K : Kx} {B : Bs} {F : Hp} {rho : List Addr} {om : Nat → Option Addr} {z : Z} {σ : L2.St} {H : Hp} {d : D} {v : V} {ds : List D} (R : Rl K B F rho om z σ H) (r : Rv K F rho om d v) (e : cont d z = some (false, ds)) (hs : ∀ xs, d ≠ .scr xs) : ∃ a xs, v = .ref a ∧ Rps K F rho ds xs ∧ H a = some (.lst xs) := by
  cases r with
  | pure r =>
    cases r with
    | lst h q =>
      cases e
      exact ⟨_, _, rfl, q, R.rh.fro _ _ h⟩
    | scr h q => exact absurd rfl (hs _)
    | @ref n a h =>
      have e : (match z.h[n]? with | some (.lst xs) => some (false, xs) | _ => none) = some (false, ds) := e
      split at e
      · rename_i xs hx
        cases e
        obtain ⟨ys, h1, h2⟩ := R.rh.obs n _ a hx h
        exact ⟨a, ys, rfl, h2, h1⟩
      · cases e
    | _ => cases e
  | @own i a h =>
    have e : (match z.s[i]? with | some (.own (.lst xs)) => some (false, xs) | _ => none) = some (false, ds) := e
    split at e
    · rename_i xs hx
      cases e
      obtain ⟨a', h1, _, h2⟩ := R.sl i _ hx
      rw [h] at h1
      cases h1
      obtain ⟨ys, h3, h4⟩ := h2
      exact ⟨a, ys, rfl, h4, h3⟩
    · cases e
theorem szl_ok {n : Nat} (h : n < szl) : n < sizeLine := Nat.lt_trans h (by decide)
theorem mf_cat {a b : Expr} {pos : Pos} {ma mb : M D} (ha : PE X a (Te (kx X Tb) ma)) (hb : PE X b (Te (kx X Tb) mb)) : PE X (.BinOp a .Add b pos) (Tf (kx X Tb) (N.cat ma mb)) := by
  refine pe_imp (pe_op op_cat ha hb) fun σ H Q ⟨B, F, rho, om, z, g⟩ => ?_
  refine (g.bnd.imp fun _ _ H1 _ _ v _ _ _ _ _ ⟨F2, rho2, z2, x, eg1, s1, p1, r1, g1⟩ => ?_).tx (R := rV (kx X Tb))
  refine (g1.bnd.imp fun _ _ H3 _ _ w _ _ _ _ _ ⟨F4, rho4, z4, y, eg2, s2, p2, r2, g2⟩ => ?_).tx (R := rV (kx X Tb))
  obtain ⟨R, d, z7, e, k⟩ := g2
  dsimp only at e
  split at e
  · cases e
  · cases e
  · rename_i hx hy
    split at e
    · rename_i ds es h1 h2
      split at e
      · rename_i hz
        cases e
        obtain ⟨a, xs, rfl, q1, h1⟩ := cont_lst R (r1.mono s2 p2) h1 hx
        obtain ⟨b, ys, rfl, q2, h2⟩ := cont_lst R r2 h2 hy
        refine ⟨a, b, xs, ys, rfl, rfl, h1, h2, ?_, fun p hp => ?_⟩
        · rw [← q1.length, ← q2.length]
          exact Nat.le_of_lt (szl_ok hz)
        · obtain ⟨R2, f2⟩ := R.new (o := .lst (xs ++ ys)) hp
          exact k F4 rho4 _ _ (Same.refl _) (List.prefix_refl _) R2 ⟨p, _, rfl, upd_same, f2, q1.append q2⟩
      · cases e
    · cases e

/-! ### changes of a list -/
/-- a change, by values: what the rule asks where the list at l holds xs -/
def ChgV (r : V → List V → Hp → VK → Prop) (f : List D → List D → Option (D × List D)) : Prop :=
  ∀ {K : Kx} {F : Hp} {rho : List Addr} {H : Hp} {l : Addr} {xs vs : List V} {ds as ds' : List D} {d : D}, Same F H → H l = some (.lst xs) → Rps K F rho ds xs → Rps K F rho as vs → f ds as = some (d, ds') →
    ∀ Q : VK, (∀ v xs', Rp K F rho d v → Rps K F rho ds' xs' → Q v (upd H l (.lst xs'))) → r (.ref l) vs H Q
theorem chg_go {K : Kx} {r : V → List V → Hp → VK → Prop} {f : List D → List D → Option (D × List D)} (hv : ChgV r f) {B : Bs} {F : Hp} {rho : List Addr} {om : Nat → Option Addr} {z : Z} {σ : L2.St} {H : Hp} {x : D} {v : V} {xs : List D} {vs : List V} {Q : VK} (r1 : Rv K F rho om x v) (r2 : Rps K F rho xs vs)
    (g : Go K (rV K) B F rho om (E.chgF f x xs) z σ H Q) : r v vs H Q := by
  obtain ⟨R, d, z7, e, k⟩ := g
  cases x with
  | own i =>
    cases r1 with
    | pure r1 => cases r1
    | own h =>
      have e : (match z.s[i]? with
        | some (.own (.lst ds)) => match f ds xs with
          | none => none
          | some (d, ds') => some (d, (⟨z.s.set i (.own (.lst ds')), z.h⟩ : Z))
        | _ => none) = some (d, z7) := e
      split at e
      · rename_i ds hs
        split at e
        · cases e
        · rename_i d' ds' hf
          cases e
          obtain ⟨a', h1, h5, h2⟩ := R.sl i _ hs
          rw [h] at h1
          cases h1
          obtain ⟨ys, h3, h4⟩ := h2
          exact hv R.rh.fro h3 h4 r2 hf Q fun v xs' q1 q2 => k F rho _ _ (Same.refl _) (List.prefix_refl _) (R.mutOwn h hs ⟨xs', upd_same, q2⟩) (.pure q1)
      · cases e
  | ref n =>
    cases r1 with
    | pure r1 =>
      cases r1 with
      | ref h =>
        have e : (match z.h[n]? with
          | some (.lst ds) => match f ds xs with
            | none => none
            | some (d, ds') => some (d, (⟨z.s, z.h.set n (.lst ds')⟩ : Z))
          | _ => none) = some (d, z7) := e
        split at e
        · rename_i ds hs
          split at e
          · cases e
          · rename_i d' ds' hf
            cases e
            obtain ⟨ys, h3, h4⟩ := R.rh.obs n _ _ hs h
            exact hv R.rh.fro h3 h4 r2 hf Q fun v xs' q1 q2 => k F rho _ _ (Same.refl _) (List.prefix_refl _) (R.mutRef h ⟨xs', upd_same, q2⟩) (.pure q1)
        · cases e
  | _ => cases e
/-- what may be changed is a list -/
theorem chg_ty {K : Kx} {B : Bs} {F : Hp} {rho : List Addr} {om : Nat → Option Addr} {z : Z} {σ : L2.St} {H : Hp} {x : D} {v : V} (R : Rl K B F rho om z σ H) (r1 : Rv K F rho om x v) (hx : E.isLst x z = true) : tyV K "list" v H := by
  have byc : ∀ ds b, cont x z = some (b, ds) → (∀ xs, x ≠ .tup xs ∧ x ≠ .kt xs) → tyV K "list" v H := fun ds b hc hn => by
    obtain ⟨a, xs, rfl, q, h⟩ := cont_ok R r1 hc
    rcases h with ⟨_, h⟩ | ⟨hb, _⟩
    · exact .inl ⟨rfl, xs, h⟩
    · rw [hb] at hc
      rcases cont_tup hc with c | c
      · exact absurd c (hn ds).1
      · exact absurd c (hn ds).2
  cases x with
  | own i =>
    cases hc : cont (.own i) z with
    | none =>
      unfold E.isLst at hx
      rw [hc] at hx
      cases hx
    | some p => exact byc p.2 p.1 hc (fun xs => ⟨(fun e => nomatch e), (fun e => nomatch e)⟩)
  | ref i =>
    cases hc : cont (.ref i) z with
    | none =>
      unfold E.isLst at hx
      rw [hc] at hx
      cases hx
    | some p => exact byc p.2 p.1 hc (fun xs => ⟨(fun e => nomatch e), (fun e => nomatch e)⟩)
  | _ => cases hx
theorem bm_go {K : Kx} {r : V → List V → Hp → VK → Prop} {f : List D → List D → Option (D × List D)} (hv : ChgV r f) {m : M D} {ms : List (M D)} : ∀ σ H Q, Te K (E.chg f m ms) σ H Q → tBM K "list" r (Te K m) (Ta K (E.args ms)) σ H Q := by
  rintro σ H Q ⟨B, F, rho, om, z, g⟩
  refine (g.bnd.imp fun _ _ H1 _ _ v _ _ _ _ _ ⟨F2, rho2, z2, x, eg1, s1, p1, r1, g1⟩ => ?_).tx (R := rV K)
  obtain ⟨R, d, z7, e, k⟩ := g1
  dsimp only at e
  split at e
  · rename_i hx
    refine ⟨chg_ty R r1 hx, ?_⟩
    have g2 : Go K (rV K) B F2 rho2 om (bnd (E.args ms) fun xs => E.chgF f x xs) z2 σ H1 Q := ⟨R, d, z7, e, k⟩
    refine (g2.bnd.imp fun _ _ H3 _ _ vs _ _ _ _ _ ⟨F4, rho4, z4, xs, eg4, s4, p4, r4, g4⟩ => ?_).tx (R := rA K)
    exact chg_go hv (r1.mono s4 p4) r4 g4
  · cases e
theorem bm0_go {K : Kx} {r : V → List V → Hp → VK → Prop} {f : List D → List D → Option (D × List D)} (hv : ChgV r f) {m : M D} : ∀ σ H Q, Te K (E.chg f m []) σ H Q → tBM0 K "list" r (Te K m) σ H Q := by
  rintro σ H Q ⟨B, F, rho, om, z, g⟩
  refine (g.bnd.imp fun _ _ H1 _ _ v _ _ _ _ _ ⟨F2, rho2, z2, x, eg1, s1, p1, r1, g1⟩ => ?_).tx (R := rV K)
  obtain ⟨R, d, z7, e, k⟩ := g1
  dsimp only at e
  split at e
  · rename_i hx
    exact ⟨chg_ty R r1 hx, chg_go hv r1 .nil ⟨R, d, z7, e, k⟩⟩
  · cases e
theorem v_append : ChgV rAppend U.append := by
  intro K F rho H l xs vs ds as ds' d s h q1 q2 e Q k
  unfold U.append at e
  split at e
  · rename_i x
    split at e
    · rename_i hz
      cases e
      cases q2 with
      | cons r t =>
        cases t
        exact ⟨l, xs, _, rfl, rfl, h, by rw [← q1.length]; exact szl_ok hz, k _ _ .non (q1.append (.one r))⟩
    · cases e
  · cases e
theorem v_pop : ChgV rPop U.pop := by
  intro K F rho H l xs vs ds as ds' d s h q1 q2 e Q k
  unfold U.pop at e
  split at e
  · cases q2
    split at e
    · rename_i d' hd
      cases e
      obtain ⟨v, hv, rv⟩ := q1.get hd
      exact ⟨l, xs, v, rfl, rfl, h, by rw [← q1.length]; exact hv, k _ _ rv q1.dropLast⟩
    · cases e
  · cases e
theorem v_popAt : ChgV rPopAt U.popAt := by
  intro K F rho H l xs vs ds as ds' d s h q1 q2 e Q k
  unfold U.popAt at e
  split at e
  · rename_i i
    split at e
    · rename_i hi
      split at e
      · rename_i kk hk
        split at e
        · rename_i d' hd
          cases e
          cases q2 with
          | cons r t =>
            cases t
            cases r
            obtain ⟨v, hv, rv⟩ := q1.get hd
            exact ⟨l, xs, i, kk, v, rfl, rfl, h, hi.1, hi.2, by rw [← q1.length]; exact (ixN_seq hk).1, hv, k _ _ rv (q1.eraseIdx kk)⟩
        · cases e
      · cases e
    · cases e
  · cases e
theorem v_extend : ChgV rExtend U.extend := by
  intro K F rho H l xs vs ds as ds' d s h q1 q2 e Q k
  unfold U.extend at e
  split at e
  · rename_i ys
    split at e
    · rename_i hz
      cases e
      cases q2 with
      | cons r t =>
        cases t
        cases r with
        | @lst b zs _ hb hr =>
          exact ⟨l, b, xs, zs, rfl, rfl, h, s _ _ hb, by rw [← q1.length, ← hr.length]; exact Nat.le_of_lt (szl_ok hz), k _ _ .non (q1.append hr)⟩
    · cases e
  · cases e
section
variable {o e : Expr} {es : List Expr} {apos cpos : Pos} {m : M D} {ms : List (M D)}
theorem me_append (ho : PE X o (Te (kx X Tb) m)) (ha : PA X (e :: es) (Ta (kx X Tb) (E.args ms))) (hbase : attributeBase o "append" X.env (eval o X.env) = eval o X.env := by rfl)
    (hfew : ((backTo cpos (starEach (e :: es) X.env)).all (fun x => !x.1) && (backToKw cpos (keywordEach [] X.env)).all (fun x => x.1.isSome) && decide ((e :: es).length + ([] : List Keyword).length + (if ([] : List Keyword).isEmpty then 0 else 1) < 30)) = true := by rfl)
    (hline : (apos.endLine == cpos.line) = true := by rfl) (hs : starEach (e :: es) X.env = (false, eval e X.env) :: starEach es X.env := by rfl) (hplain : (backTo cpos (starEach es X.env)).any (·.1) = false := by rfl) :
    PE X (.Call (.Attribute o "append" apos) (e :: es) [] cpos) (Te (kx X Tb) (E.chg U.append m ms)) :=
  pe_imp (pe_bm PySem.F.plainAttrs_list PySem.F.slot_list_append PySem.F.type_list_append mt_append ho ha hbase hfew hline hs hplain) (bm_go v_append)
theorem me_extend (ho : PE X o (Te (kx X Tb) m)) (ha : PA X (e :: es) (Ta (kx X Tb) (E.args ms))) (hbase : attributeBase o "extend" X.env (eval o X.env) = eval o X.env := by rfl)
    (hfew : ((backTo cpos (starEach (e :: es) X.env)).all (fun x => !x.1) && (backToKw cpos (keywordEach [] X.env)).all (fun x => x.1.isSome) && decide ((e :: es).length + ([] : List Keyword).length + (if ([] : List Keyword).isEmpty then 0 else 1) < 30)) = true := by rfl)
    (hline : (apos.endLine == cpos.line) = true := by rfl) (hs : starEach (e :: es) X.env = (false, eval e X.env) :: starEach es X.env := by rfl) (hplain : (backTo cpos (starEach es X.env)).any (·.1) = false := by rfl) :
    PE X (.Call (.Attribute o "extend" apos) (e :: es) [] cpos) (Te (kx X Tb) (E.chg U.extend m ms)) :=
  pe_imp (pe_bm PySem.F.plainAttrs_list PySem.F.slot_list_extend PySem.F.type_list_extend mt_extend ho ha hbase hfew hline hs hplain) (bm_go v_extend)
theorem me_popAt (ho : PE X o (Te (kx X Tb) m)) (ha : PA X (e :: es) (Ta (kx X Tb) (E.args ms))) (hbase : attributeBase o "pop" X.env (eval o X.env) = eval o X.env := by rfl)
    (hfew : ((backTo cpos (starEach (e :: es) X.env)).all (fun x => !x.1) && (backToKw cpos (keywordEach [] X.env)).all (fun x => x.1.isSome) && decide ((e :: es).length + ([] : List Keyword).length + (if ([] : List Keyword).isEmpty then 0 else 1) < 30)) = true := by rfl)
    (hline : (apos.endLine == cpos.line) = true := by rfl) (hs : starEach (e :: es) X.env = (false, eval e X.env) :: starEach es X.env := by rfl) (hplain : (backTo cpos (starEach es X.env)).any (·.1) = false := by rfl) :
    PE X (.Call (.Attribute o "pop" apos) (e :: es) [] cpos) (Te (kx X Tb) (E.chg U.popAt m ms)) :=
  pe_imp (pe_bm PySem.F.plainAttrs_list PySem.F.slot_list_pop PySem.F.type_list_pop mt_popAt ho ha hbase hfew hline hs hplain) (bm_go v_popAt)
theorem me_pop (ho : PE X o (Te (kx X Tb) m)) (hbase : attributeBase o "pop" X.env (eval o X.env) = eval o X.env := by rfl) (hline : (apos.endLine == cpos.line) = true := by rfl) :
    PE X (.Call (.Attribute o "pop" apos) [] [] cpos) (Te (kx X Tb) (E.chg U.pop m [])) :=
  pe_imp (pe_bm0 PySem.F.plainAttrs_list PySem.F.slot_list_pop PySem.F.type_list_pop mt_pop ho hbase hline) (bm0_go v_pop)
end
end
end Mi

set_option Elab.async false
set_option linter.all false
set_option maxRecDepth 100000
/-! Mi, part E: targets, what is walked, statements. -/
namespace Mi
open PySem PySem.Spec PyProof.Rows L2

/-! ### targets -/
def Tg (K : Kx) (g : G) : TG := fun v σ H Q => ∃ B F rho om z d, Rl K B F rho om z σ H ∧ Rp K F rho d v ∧ ∃ z', g.run d z = some z' ∧
  ∀ om' σ', (∀ j, ¬ j ∈ g.ws → om' j = om j ∧ σ'[j]? = σ[j]?) → σ'.length = σ.length → (∀ j a, om' j = some a → om j = some a) → Rl K B F rho om' z' σ' H → Q σ' H
def Tgs (K : Kx) (gs : List G) : TGs := fun vs σ H Q => ∃ B F rho om z ds, Rl K B F rho om z σ H ∧ Rps K F rho ds vs ∧ ∃ z', G.runs gs ds z = some z' ∧
  ∀ om' σ', (∀ j, ¬ j ∈ gs.flatMap G.ws → om' j = om j ∧ σ'[j]? = σ[j]?) → σ'.length = σ.length → (∀ j a, om' j = some a → om j = some a) → Rl K B F rho om' z' σ' H → Q σ' H
section
variable {X : Cx} {Tb : Tbs}
theorem mg_nm {i : Nat} {x : Str} {pos : Pos} (hN : X.N.Nodup) (hi : X.N[i]? = some x := by rfl) (hx : Loc X.env.scope x := by first | exact Or.inl rfl | exact Or.inr rfl)
    (hf : X.fn x = true ∨ X.env.scope.names.lookup x = some .local := by first | exact .inl rfl | exact .inr rfl) : PG X (.Name x pos) (Tg (kx X Tb) (G.nm i)) := by
  refine pg_imp (pg_name hN hi hx hf) fun v σ H Q ⟨B, F, rho, om, z, d, R, r, z', e, k⟩ => ?_
  cases e
  refine k (omSet om i none) _ (fun j hj => ?_) (by rw [List.length_set]) (fun j a h => (omSet_none h).2) (R.setVal i r)
  have hj : ¬ j = i := fun q => hj (by rw [q]; exact List.mem_singleton.mpr rfl)
  exact ⟨omSet_ne hj, List.getElem?_set_ne (Ne.symm hj)⟩
theorem mgs_nil : PGs X [] (Tgs (kx X Tb) []) := by
  refine pgs_imp pgs_nil fun vs σ H Q ⟨B, F, rho, om, z, ds, R, r, z', e, k⟩ => ?_
  cases r with
  | nil =>
    cases e
    exact ⟨rfl, k om σ (fun _ _ => ⟨rfl, rfl⟩) rfl (fun _ _ h => h) R⟩
  | cons _ _ => cases e
theorem mgs_cons {e : Expr} {es : List Expr} {g : G} {gs : List G} (h1 : PG X e (Tg (kx X Tb) g)) (h2 : PGs X es (Tgs (kx X Tb) gs)) (hs : (assignEach (e :: es) X.env).map (·.2) = assign e X.env :: (assignEach es X.env).map (·.2) := by rfl) : PGs X (e :: es) (Tgs (kx X Tb) (g :: gs)) := by
  refine pgs_imp (pgs_cons h1 h2 hs) fun vs σ H Q ⟨B, F, rho, om, z, ds, R, r, z', e, k⟩ => ?_
  cases r with
  | nil => cases e
  | @cons d v ds vs r q =>
    have e : (match g.run d z with | none => none | some z1 => G.runs gs ds z1) = some z' := e
    split at e
    · cases e
    · rename_i z1 h1
      refine ⟨v, vs, rfl, B, F, rho, om, z, d, R, r, z1, h1, fun om1 σ1 w1 l1 o1 R1 => ?_⟩
      refine ⟨B, F, rho, om1, z1, ds, R1, q, z', e, fun om2 σ2 w2 l2 o2 R2 => ?_⟩
      refine k om2 σ2 (fun j hj => ?_) (l2.trans l1) (fun j a h => o1 j a (o2 j a h)) R2
      rw [List.flatMap_cons, List.mem_append] at hj
      obtain ⟨a1, b1⟩ := w1 j fun q => hj (.inl q)
      obtain ⟨a2, b2⟩ := w2 j fun q => hj (.inr q)
      exact ⟨a2.trans a1, b2.trans b1⟩
theorem runs_len : ∀ {gs : List G} {ds : List D} {z z' : Z}, G.runs gs ds z = some z' → ds.length = gs.length
  | [], [], _, _, _ => rfl
  | [], _ :: _, _, _, h => by cases h
  | _ :: _, [], _, _, h => by cases h
  | g :: gs, d :: ds, z, z', h => by
    have e : (match g.run d z with | none => none | some z1 => G.runs gs ds z1) = some z' := h
    split at e
    · cases e
    · rw [List.length_cons, List.length_cons, runs_len e]
theorem mg_tp {es : List Expr} {k : Nat} {pos : Pos} {gs : List G} (hc : X.calm = true) (h : PGs X es (Tgs (kx X Tb) gs)) (hn : (assignEach es X.env).length = gs.length := by rfl) (hst : (assignEach es X.env).findIdx? (·.1) = none := by rfl) : PG X (.Tuple es k pos) (Tg (kx X Tb) (G.tp gs)) := by
  refine pg_imp (pg_tup hc h hn hst) fun v σ H Q ⟨B, F, rho, om, z, d, R, r, z', e, k⟩ => ?_
  cases r with
  | tup q r =>
    have hl := r.length
    have hl2 := runs_len (show G.runs gs _ z = some z' from e)
    exact ⟨_, _, rfl, SqT.of (R.rh.fro _ _ q), by omega, B, F, rho, om, z, _, R, r, z', e, k⟩
  | kt q r =>
    have hl := r.length
    have hl2 := runs_len (show G.runs gs _ z = some z' from e)
    exact ⟨_, _, rfl, Same.sqt R.rh.fro q, by omega, B, F, rho, om, z, _, R, r, z', e, k⟩
  | _ => cases e
theorem mg_tl {es : List Expr} {k : Nat} {pos : Pos} {gs : List G} (hc : X.calm = true) (h : PGs X es (Tgs (kx X Tb) gs)) (hn : (assignEach es X.env).length = gs.length := by rfl) (hst : (assignEach es X.env).findIdx? (·.1) = none := by rfl) : PG X (.Tuple es k pos) (Tg (kx X Tb) (G.tl gs)) := by
  refine pg_imp (pg_unl hc h hn hst) fun v σ H Q ⟨B, F, rho, om, z, d, R, r, z', e, k⟩ => ?_
  cases r with
  | lst q r =>
    have hl := r.length
    have hl2 := runs_len (show G.runs gs _ z = some z' from e)
    exact ⟨_, _, rfl, SqL.of (R.rh.fro _ _ q), by omega, B, F, rho, om, z, _, R, r, z', e, k⟩
  | _ => cases e
end

/-! ### what is walked -/
/-- the iterator gives the items, as long as what is walked stands as it is -/
def ItOk (K : Kx) (F : Hp) (rho : List Addr) (om : Nat → Option Addr) (it : It) (J : L2.It) : Prop :=
  ∀ B2 F2 rho2 om2 z2 σ2 H2, Same F F2 → rho <+: rho2 → Rl K B2 F2 rho2 om2 z2 σ2 H2 → (om2 = om ∨ ∀ j, it.chk ≠ some (.own j)) → it.ok z2 = true →
    (∀ i, it.items.length ≤ i → J.stop i H2) ∧ ∀ i d, it.items[i]? = some d → J.go i H2 ∧ ∀ x H3, J.yld i H2 x H3 → H3 = H2 ∧ ∃ F3, Same F2 F3 ∧ (∀ a o, H2 a = some o → NT o → F2 a = none → F3 a = none) ∧ Rl K B2 F3 rho2 om2 z2 σ2 H2 ∧ Rp K F3 rho2 d x
def Ti (K : Kx) (mi : M It) : TI := fun σ H R => ∃ B F rho om z, Rl K B F rho om z σ H ∧ ∃ it z', mi z = some (it, z') ∧
  ∀ F' rho' H' J, Same F F' → rho <+: rho' → Rl K B F' rho' om z' σ H' → ItOk K F' rho' om it J → R J H'
/-- no slot's own list is walked -/
def noOwn (mi : M It) : Prop := ∀ z it z' j, mi z = some (it, z') → it.chk ≠ some (.own j)
section
variable {X : Cx} {Tb : Tbs} {tg : Expr}
def iSeq (K : PySem.W.Frag) (tl : TE) : TI := fun σ H R => tl σ H fun x H1 => ∃ a, x = .ref a ∧ (((∃ xs, SqL K H1 a xs) ∧ R (Itl K a) H1) ∨ ((∃ xs, SqT K H1 a xs) ∧ R (Itt K a) H1))
theorem pi_seq {l : Expr} {tl : TE} (hl : PE X l tl) : PI X tg l (iSeq X.K tl) := by
  refine ⟨fun pins s σ H R I h => ?_⟩
  refine thn (hl.run pins s σ H _ I h) fun v s1 ⟨x, H1, I1, r1, q1⟩ => ?_
  obtain ⟨a, e, q⟩ := q1
  subst e
  cases r1
  rcases q with ⟨⟨xs, hq⟩, q⟩ | ⟨⟨xs, hq⟩, q⟩
  · obtain ⟨its, rv, p, hz⟩ := I1.list hq
    refine wpAny_pyIter_list p.isList ?_
    refine ⟨s1.heap.objs.size, [s1.heap.objs.size], _, _, H1, rfl, I1.kept (t' := s1.toks) fun b o e => Heap.get?_push_of_some _ e, turn_list a _, ⟨_, Heap.get?_push_size _ rfl, rfl, rfl⟩, fun b hb => ?_, q⟩
    have e : b = s1.heap.objs.size := by simpa using hb
    subst e
    exact I1.fpOk (Nat.le_refl _) (I1.hok.fresh (Nat.le_refl _))
  · obtain ⟨its, rv, p, hz⟩ := I1.tuple hq
    refine wpAny_pyIter_tuple (show s1.heap.IsTuple a its.toArray from p) ?_
    refine ⟨s1.heap.objs.size, [s1.heap.objs.size], _, _, H1, rfl, I1.kept (t' := s1.toks) fun b o e => Heap.get?_push_of_some _ e, turn_tuple a _, ⟨_, Heap.get?_push_size _ rfl, rfl, rfl⟩, fun b hb => ?_, q⟩
    have e : b = s1.heap.objs.size := by simpa using hb
    subst e
    exact I1.fpOk (Nat.le_refl _) (I1.hok.fresh (Nat.le_refl _))
/-- the iterator over a list at a -/
theorem itl_ok {K : Kx} {F : Hp} {rho : List Addr} {om : Nat → Option Addr} {it : It} {a : Addr}
    (h : ∀ B2 F2 rho2 om2 z2 σ2 H2, Same F F2 → rho <+: rho2 → Rl K B2 F2 rho2 om2 z2 σ2 H2 → (om2 = om ∨ ∀ j, it.chk ≠ some (.own j)) → it.ok z2 = true → ∃ xs, SqL K H2 a xs ∧ Rps K F2 rho2 it.items xs) : ItOk K F rho om it (Itl K a) := by
  intro B2 F2 rho2 om2 z2 σ2 H2 s p R ho hk
  obtain ⟨xs, hq, r⟩ := h B2 F2 rho2 om2 z2 σ2 H2 s p R ho hk
  refine ⟨fun i hi => ⟨xs, hq, by rw [← r.length]; exact hi⟩, fun i d hd => ?_⟩
  obtain ⟨v, hv, rv⟩ := r.get hd
  refine ⟨⟨xs, v, hq, hv⟩, fun x H3 ⟨e, y⟩ => ⟨e, F2, Same.refl _, fun _ _ _ _ n => n, R, ?_⟩⟩
  have q := y xs hq
  rw [hv] at q
  cases q
  exact rv
theorem itt_ok {K : Kx} {F : Hp} {rho : List Addr} {om : Nat → Option Addr} {it : It} {a : Addr}
    (h : ∀ B2 F2 rho2 om2 z2 σ2 H2, Same F F2 → rho <+: rho2 → Rl K B2 F2 rho2 om2 z2 σ2 H2 → (om2 = om ∨ ∀ j, it.chk ≠ some (.own j)) → it.ok z2 = true → ∃ xs, SqT K H2 a xs ∧ Rps K F2 rho2 it.items xs) : ItOk K F rho om it (Itt K a) := by
  intro B2 F2 rho2 om2 z2 σ2 H2 s p R ho hk
  obtain ⟨xs, hq, r⟩ := h B2 F2 rho2 om2 z2 σ2 H2 s p R ho hk
  refine ⟨fun i hi => ⟨xs, hq, by rw [← r.length]; exact hi⟩, fun i d hd => ?_⟩
  obtain ⟨v, hv, rv⟩ := r.get hd
  refine ⟨⟨xs, v, hq, hv⟩, fun x H3 ⟨e, y⟩ => ⟨e, F2, Same.refl _, fun _ _ _ _ n => n, R, ?_⟩⟩
  have q := y xs hq
  rw [hv] at q
  cases q
  exact rv
theorem it_ok {it : It} {z : Z} {d : D} (h : it.ok z = true) (hc : it.chk = some d) : ∃ b, cont d z = some (b, it.items) := by
  unfold It.ok at h
  rw [hc] at h
  dsimp only at h
  split at h
  · assumption
  · cases h
/-- the five ways to walk -/
theorem seq_at {K : Kx} {B : Bs} {F : Hp} {rho : List Addr} {om : Nat → Option Addr} {z z' : Z} {σ : L2.St} {H : Hp} {x : D} {v : V} {it : It} {R : L2.It → Hp → Prop} (Rr : Rl K B F rho om z σ H) (r : Rv K F rho om x v)
    (e : I.seqF x z = some (it, z')) (k : ∀ J, z' = z → ItOk K F rho om it J → R J H) : ∃ a, v = .ref a ∧ (((∃ xs, SqL K H a xs) ∧ R (Itl K a) H) ∨ ((∃ xs, SqT K H a xs) ∧ R (Itt K a) H)) := by
  cases r with
  | pure r =>
    cases r with
    | @lst a xs ds h q =>
      cases e
      exact ⟨a, rfl, .inl ⟨⟨xs, SqL.of (Rr.rh.fro _ _ h)⟩, k _ rfl (itl_ok fun B2 F2 rho2 om2 z2 σ2 H2 s p R2 _ _ => ⟨xs, SqL.of (R2.rh.fro _ _ (s _ _ h)), q.mono s p⟩)⟩⟩
    | @scr a xs ds h q =>
      cases e
      exact ⟨a, rfl, .inl ⟨⟨xs, Rr.rh.fro.seq h⟩, k _ rfl (itl_ok fun B2 F2 rho2 om2 z2 σ2 H2 s p R2 _ _ => ⟨xs, R2.rh.fro.seq (s.seq h), q.mono s p⟩)⟩⟩
    | @tup a xs ds h q =>
      cases e
      exact ⟨a, rfl, .inr ⟨⟨xs, SqT.of (Rr.rh.fro _ _ h)⟩, k _ rfl (itt_ok fun B2 F2 rho2 om2 z2 σ2 H2 s p R2 _ _ => ⟨xs, SqT.of (R2.rh.fro _ _ (s _ _ h)), q.mono s p⟩)⟩⟩
    | @kt a xs ds h q =>
      cases e
      exact ⟨a, rfl, .inr ⟨⟨xs, Same.sqt Rr.rh.fro h⟩, k _ rfl (itt_ok fun B2 F2 rho2 om2 z2 σ2 H2 s p R2 _ _ => ⟨xs, Same.sqt R2.rh.fro (Same.sqt s h), q.mono s p⟩)⟩⟩
    | @ref n a h =>
      unfold I.seqF at e
      dsimp only at e
      split at e
      · rename_i b xs hc
        cases e
        obtain ⟨a', ys, hv, q, h9⟩ := cont_ok Rr (.pure (.ref h)) hc
        cases hv
        rcases h9 with ⟨_, h9⟩ | ⟨hb, _⟩
        · refine ⟨a, rfl, .inl ⟨⟨ys, h9⟩, k _ rfl (itl_ok fun B2 F2 rho2 om2 z2 σ2 H2 s p R2 _ ok => ?_)⟩⟩
          obtain ⟨b2, hc2⟩ := it_ok ok rfl
          obtain ⟨a2, ys2, hv2, q2, h10⟩ := cont_ok R2 (.pure (.ref (pre_get p h))) hc2
          cases hv2
          rcases h10 with ⟨_, h10⟩ | ⟨hb, _⟩
          · exact ⟨ys2, h10, q2⟩
          · rw [hb] at hc2
            exact (cont_tup hc2).elim (fun z => nomatch z) fun z => nomatch z
        · rw [hb] at hc
          exact (cont_tup hc).elim (fun z => nomatch z) fun z => nomatch z
      · cases e
    | _ => cases e
  | @own i a h =>
    unfold I.seqF at e
    dsimp only at e
    split at e
    · rename_i b xs hc
      cases e
      obtain ⟨a', ys, hv, q, h9⟩ := cont_ok Rr (.own h) hc
      cases hv
      rcases h9 with ⟨_, h9⟩ | ⟨hb, _⟩
      · refine ⟨a, rfl, .inl ⟨⟨ys, h9⟩, k _ rfl (itl_ok fun B2 F2 rho2 om2 z2 σ2 H2 s p R2 ho ok => ?_)⟩⟩
        obtain ⟨b2, hc2⟩ := it_ok ok rfl
        have ho : om2 = om := by
          rcases ho with ho | ho
          · exact ho
          · exact absurd rfl (ho i)
        obtain ⟨a2, ys2, hv2, q2, h10⟩ := cont_ok R2 (.own (by rw [ho]; exact h)) hc2
        cases hv2
        rcases h10 with ⟨_, h10⟩ | ⟨hb, _⟩
        · exact ⟨ys2, h10, q2⟩
        · rw [hb] at hc2
          exact (cont_tup hc2).elim (fun z => nomatch z) fun z => nomatch z
      · rw [hb] at hc
        exact (cont_tup hc).elim (fun z => nomatch z) fun z => nomatch z
    · cases e
theorem mi_seqC {l : Expr} {m : M D} (hl : PE X l (Te (kx X Tb) m)) : PI X tg l (Ti (kx X Tb) (I.seqC m)) := by
  refine pi_imp (pi_seq hl) fun σ H R ⟨B, F, rho, om, z, Rr, it, z', e, k⟩ => ?_
  obtain ⟨x, z1, e1, e2⟩ := bnd_some e
  refine ⟨B, F, rho, om, z, Rr, x, z1, e1, fun F1 rho1 H1 v s1 p1 R1 r1 => ?_⟩
  exact seq_at R1 r1 e2 fun J ez ok => k F1 rho1 H1 J s1 p1 (by rw [ez]; exact R1) ok
theorem mi_seq {l : Expr} {m : M D} (hl : PE X l (Te (kx X Tb) m)) : PI X tg l (Ti (kx X Tb) (I.seq m)) := by
  refine pi_imp (mi_seqC hl) fun σ H R ⟨B, F, rho, om, z, Rr, it, z', e, k⟩ => ?_
  refine ⟨B, F, rho, om, z, Rr, it, z', ?_, k⟩
  obtain ⟨x, z1, e1, e2⟩ := bnd_some e
  unfold I.seqC bnd
  rw [e1]
  show I.seqF x z1 = some (it, z')
  cases x <;> first | exact e2 | cases e2
theorem seq_noOwn {m : M D} : noOwn (I.seq m) := by
  intro z it z' j h
  obtain ⟨x, z1, e1, e2⟩ := bnd_some h
  intro q
  cases x <;> try (cases e2; done)
  · cases e2; cases q
  · cases e2; cases q
  · cases e2; cases q
  · cases e2; cases q
  · dsimp only at e2
    split at e2
    · cases e2; cases q
    · cases e2
theorem irng_get {lo : Int} {n i : Nat} {d : D} (h : (I.irng lo n)[i]? = some d) : i < n ∧ d = .int (lo + (i : Nat)) := by
  unfold I.irng at h
  rw [List.getElem?_map] at h
  cases q : (List.range n)[i]? with
  | none => rw [q] at h; cases h
  | some j =>
    rw [q] at h
    cases h
    obtain ⟨h1, h2⟩ := List.getElem?_eq_some_iff.mp q
    rw [List.getElem_range] at h2
    subst h2
    exact ⟨by simpa using h1, rfl⟩
theorem irng_len {lo : Int} {n : Nat} : (I.irng lo n).length = n := by
  unfold I.irng
  rw [List.length_map, List.length_range]
theorem itr_ok {K : Kx} {F : Hp} {rho : List Addr} {om : Nat → Option Addr} {lo : Int} {n : Nat} : ItOk K F rho om ⟨I.irng lo n, none⟩ (Itr lo n) := by
  intro B2 F2 rho2 om2 z2 σ2 H2 s p R ho hk
  refine ⟨fun i hi => ?_, fun i d hd => ?_⟩
  · rw [irng_len] at hi
    exact hi
  · obtain ⟨h1, rfl⟩ := irng_get hd
    refine ⟨h1, fun x H3 ⟨e, y⟩ => ⟨e, F2, Same.refl _, fun _ _ _ _ n => n, R, ?_⟩⟩
    rw [y]
    exact .int _
theorem mi_rng1 {a : Expr} {m : M D} {p pos : Pos} (hg : Gl X "range") (hm : X.mg "range" = none) (ha : PE X a (Te (kx X Tb) m)) (hs : starEach [a] X.env = [(false, eval a X.env)] := by rfl) (he : starEach [a] X.env = (false, eval a X.env) :: starEach [] X.env := by rfl) : PI X tg (.Call (.Name "range" p) [a] [] pos) (Ti (kx X Tb) (I.rng1 m)) := by
  refine pi_imp (pi_range1 hg hm (pa_cons ha pa_nil he) hs) fun σ H R ⟨B, F, rho, om, z, Rr, it, z', e, k⟩ => ?_
  obtain ⟨x, z1, e1, e2⟩ := bnd_some e
  refine ⟨B, F, rho, om, z, Rr, x, z1, e1, fun F1 rho1 H1 v s1 p1 R1 r1 => ?_⟩
  cases x <;> try (cases e2; done)
  obtain rfl := rv_int r1
  dsimp only at e2
  split at e2
  · rename_i n hn
    cases e2
    exact ⟨_, rfl, hn.1, hn.2, k F1 rho1 H1 _ s1 p1 R1 itr_ok⟩
  · cases e2
theorem mi_rng2 {a b : Expr} {m n : M D} {p pos : Pos} (hg : Gl X "range") (hm : X.mg "range" = none) (ha : PE X a (Te (kx X Tb) m)) (hb : PE X b (Te (kx X Tb) n)) (hs : starEach [a, b] X.env = [(false, eval a X.env), (false, eval b X.env)] := by rfl) (hs2 : starEach [b] X.env = [(false, eval b X.env)] := by rfl)
    (he : starEach [a, b] X.env = (false, eval a X.env) :: starEach [b] X.env := by rfl) (he2 : starEach [b] X.env = (false, eval b X.env) :: starEach [] X.env := by rfl) : PI X tg (.Call (.Name "range" p) [a, b] [] pos) (Ti (kx X Tb) (I.rng2 m n)) := by
  refine pi_imp (pi_range2 hg hm (pa_cons ha (pa_cons hb pa_nil he2) he) hs hs2) fun σ H R ⟨B, F, rho, om, z, Rr, it, z', e, k⟩ => ?_
  obtain ⟨x, z1, e1, e2⟩ := bnd_some e
  refine ⟨B, F, rho, om, z, Rr, x, z1, e1, fun F1 rho1 H1 v s1 p1 R1 r1 => ?_⟩
  obtain ⟨y, z2, e3, e4⟩ := bnd_some e2
  refine ⟨B, F1, rho1, om, z1, R1, y, z2, e3, fun F2 rho2 H2 w s2 p2 R2 r2 => ?_⟩
  cases x <;> try (cases e4; done)
  cases y <;> try (cases e4; done)
  obtain rfl := rv_int r1
  obtain rfl := rv_int r2
  dsimp only at e4
  split at e4
  · rename_i i j hn
    cases e4
    exact ⟨_, _, rfl, ⟨hn.1.1, hn.1.2, hn.2.1, hn.2.2⟩, k F2 rho2 H2 _ (s1.trans s2) (p1.trans p2) R2 itr_ok⟩
  · cases e4
theorem rng1_noOwn {m : M D} : noOwn (I.rng1 m) := by
  intro z it z' j h
  obtain ⟨x, z1, e1, e2⟩ := bnd_some h
  intro q
  cases x <;> try (cases e2; done)
  dsimp only at e2
  split at e2
  · cases e2; cases q
  · cases e2
theorem rng2_noOwn {m n : M D} : noOwn (I.rng2 m n) := by
  intro z it z' j h
  obtain ⟨x, z1, e1, e2⟩ := bnd_some h
  obtain ⟨y, z2, e3, e4⟩ := bnd_some e2
  intro q
  cases x <;> try (cases e4; done)
  cases y <;> try (cases e4; done)
  dsimp only at e4
  split at e4
  · cases e4; cases q
  · cases e4
end
end Mi

set_option Elab.async false
set_option linter.all false
set_option maxRecDepth 100000
/-! Mi, part F: statements. -/
namespace Mi
open PySem PySem.Spec PyProof.Rows L2

def Post (K : Kx) (B : Bs) (F : Hp) (rho : List Addr) (D : Ends) (z' : Z) : Fl → Prop
  | .nx => ∀ F' rho' om' σ' H', Same F F' → rho <+: rho' → Rl K B F' rho' om' z' σ' H' → D.nx σ' H'
  | .bk => ∀ F' rho' om' σ' H', Same F F' → rho <+: rho' → Rl K B F' rho' om' z' σ' H' → D.bk σ' H'
  | .ct => ∀ F' rho' om' σ' H', Same F F' → rho <+: rho' → Rl K B F' rho' om' z' σ' H' → D.ct σ' H'
  | .rt d => ∀ F' rho' om' σ' H' v, Same F F' → rho <+: rho' → Rl K B F' rho' om' z' σ' H' → Rp K F' rho' d v → D.rt v H'
def GoS (K : Kx) (B : Bs) (F : Hp) (rho : List Addr) (om : Nat → Option Addr) (c : C) (z : Z) (D : Ends) (σ : L2.St) (H : Hp) : Prop :=
  Rl K B F rho om z σ H ∧ ∃ f z', c z = some (f, z') ∧ Post K B F rho D z' f
def Ts (K : Kx) (c : C) : TS := fun D σ H => ∃ B F rho om z, GoS K B F rho om c z D σ H
theorem Post.mono {K : Kx} {B : Bs} {F F1 : Hp} {rho rho1 : List Addr} {D : Ends} {z' : Z} {f : Fl} (s : Same F F1) (p : rho <+: rho1) (h : Post K B F rho D z' f) : Post K B F1 rho1 D z' f := by
  cases f with
  | nx => exact fun F' rho' om' σ' H' s' p' R => h F' rho' om' σ' H' (s.trans s') (p.trans p') R
  | bk => exact fun F' rho' om' σ' H' s' p' R => h F' rho' om' σ' H' (s.trans s') (p.trans p') R
  | ct => exact fun F' rho' om' σ' H' s' p' R => h F' rho' om' σ' H' (s.trans s') (p.trans p') R
  | rt d => exact fun F' rho' om' σ' H' v s' p' R => h F' rho' om' σ' H' v (s.trans s') (p.trans p') R
section
variable {X : Cx} {Tb : Tbs}
/-! ### blocks -/
theorem mss_nil : PSs X [] (Ts (kx X Tb) C.skip) := by
  refine pss_imp pss_nil fun D σ H ⟨B, F, rho, om, z, R, f, z', e, k⟩ => ?_
  cases e
  exact k F rho om σ H (Same.refl _) (List.prefix_refl _) R
theorem seq_go {K : Kx} {a b : C} {D : Ends} {σ : L2.St} {H : Hp} (h : Ts K (C.seq a b) D σ H) : Ts K a { D with nx := Ts K b D } σ H := by
  obtain ⟨B, F, rho, om, z, R, f, z', e, k⟩ := h
  unfold C.seq at e
  split at e
  · rename_i z1 h1
    refine ⟨B, F, rho, om, z, R, .nx, z1, h1, fun F' rho' om' σ' H' s p R' => ⟨B, F', rho', om', z1, R', f, z', e, k.mono s p⟩⟩
  · rename_i hn
    refine ⟨B, F, rho, om, z, R, f, z', e, ?_⟩
    cases f with
    | nx => exact absurd e (hn z')
    | _ => exact k
theorem mss_cons {st : Stmt} {rest : List Stmt} {a b : C} (h1 : PS X st (Ts (kx X Tb) a)) (h2 : PSs X rest (Ts (kx X Tb) b)) : PSs X (st :: rest) (Ts (kx X Tb) (C.seq a b)) := pss_imp (pss_cons h1 h2) fun D σ H h => seq_go h
theorem mss_one {st : Stmt} {a : C} (h1 : PS X st (Ts (kx X Tb) a)) : PSs X [st] (Ts (kx X Tb) a) := pss_one h1
/-- a slot's list is laid down, ahead of a statement -/
theorem mss_frz {rest : List Stmt} {b : C} (i : Nat) (h : PSs X rest (Ts (kx X Tb) b)) : PSs X rest (Ts (kx X Tb) (C.seq (C.frz i) b)) := by
  refine pss_imp h fun D σ H ⟨B, F, rho, om, z, R, f, z', e, k⟩ => ?_
  unfold C.seq C.frz at e
  cases hs : z.s[i]? with
  | none =>
    rw [hs] at e
    cases e
  | some x =>
    cases x with
    | own d =>
      cases d with
      | lst ds =>
        rw [hs] at e
        have e : b ⟨z.s.set i (.val (.lst ds)), z.h⟩ = some (f, z') := e
        obtain ⟨a, h1, h2, xs, h3, h4⟩ := R.sl i _ hs
        have f0 := R.freshOwn h1
        have R1 : Rl (kx X Tb) B F rho (omSet om i none) ⟨z.s.set i .no, z.h⟩ σ H := R.forget i
        obtain ⟨R2, s2⟩ := R1.lay f0 h3
        have hσ : σ.set i (some (V.ref a)) = σ := by
          refine List.ext_getElem? fun j => ?_
          by_cases c : j = i
          · subst c
            rw [h2, List.getElem?_set_self (List.getElem?_eq_some_iff.mp h2).1]
          · rw [List.getElem?_set_ne (Ne.symm c)]
        have R3 := R2.setVal i (.lst upd_same (h4.mono s2 (List.prefix_refl _)))
        rw [hσ] at R3
        have ez : (⟨(z.s.set i Sl.no).set i (.val (.lst ds)), z.h⟩ : Z) = ⟨z.s.set i (.val (.lst ds)), z.h⟩ := by rw [List.set_set]
        have R3 : Rl (kx X Tb) B _ rho (omSet (omSet om i none) i none) ⟨(z.s.set i Sl.no).set i (.val (.lst ds)), z.h⟩ σ H := R3
        rw [ez] at R3
        exact ⟨B, _, rho, _, _, R3, f, z', e, k.mono s2 (List.prefix_refl _)⟩
      | _ =>
        rw [hs] at e
        cases e
    | _ =>
      rw [hs] at e
      cases e
/-! ### small statements -/
theorem ms_pass {pos : Pos} : PS X (.Pass pos) (Ts (kx X Tb) C.skip) := by
  refine ps_imp ps_pass fun D σ H ⟨B, F, rho, om, z, R, f, z', e, k⟩ => ?_
  cases e
  exact k F rho om σ H (Same.refl _) (List.prefix_refl _) R
theorem ms_brk {pos : Pos} : PS X (.Break pos) (Ts (kx X Tb) C.brk) := by
  refine ps_imp ps_break fun D σ H ⟨B, F, rho, om, z, R, f, z', e, k⟩ => ?_
  cases e
  exact k F rho om σ H (Same.refl _) (List.prefix_refl _) R
theorem ms_cnt {pos : Pos} : PS X (.Continue pos) (Ts (kx X Tb) C.cnt) := by
  refine ps_imp ps_continue fun D σ H ⟨B, F, rho, om, z, R, f, z', e, k⟩ => ?_
  cases e
  exact k F rho om σ H (Same.refl _) (List.prefix_refl _) R
theorem ms_expr {e : Expr} {m : M D} {pos : Pos} (he : PE X e (Te (kx X Tb) m)) (hs : swapsWith e none pos.line X.env = pure false := by rfl) : PS X (.Expr e pos) (Ts (kx X Tb) (C.drop m)) := by
  refine ps_imp (ps_expr he hs) fun D σ H ⟨B, F, rho, om, z, R, f, z', e, k⟩ => ?_
  obtain ⟨x, z1, e1, e2⟩ := bnd_some e
  cases e2
  exact ⟨B, F, rho, om, z, R, x, _, e1, fun F1 rho1 H1 v s p R1 r1 => k F1 rho1 om σ H1 s p R1⟩
theorem ms_ret {e : Expr} {m : M D} {pos : Pos} (he : PE X e (Te (kx X Tb) m)) : PS X (.Return (some e) pos) (Ts (kx X Tb) (C.ret m)) := by
  refine ps_imp (ps_ret he) fun D σ H ⟨B, F, rho, om, z, R, f, z', e, k⟩ => ?_
  obtain ⟨x, z1, e1, e2⟩ := bnd_some e
  refine ⟨B, F, rho, om, z, R, x, z1, e1, fun F1 rho1 H1 v s p R1 r1 => ?_⟩
  cases r1 with
  | pure r1 =>
    have e2 : some (Fl.rt x, z1) = some (f, z') := by
      cases x <;> first | exact e2 | (cases r1; done)
    cases e2
    exact k F1 rho1 om σ H1 v s p R1 r1
  | @own i a h =>
    try dsimp only at e2
    split at e2
    · rename_i ds hs
      cases e2
      obtain ⟨a', h1, h2, h5⟩ := R1.sl i _ hs
      rw [h] at h1
      cases h1
      obtain ⟨xs, h3, h4⟩ := h5
      have f0 := R1.freshOwn h
      obtain ⟨R2, s2⟩ := (R1.forget i).lay f0 h3
      have r3 : Rp (kx X Tb) (upd F1 a (.lst xs)) rho1 (.lst ds) (.ref a) := .lst upd_same (h4.mono s2 (List.prefix_refl _))
      exact k _ rho1 _ σ H1 _ (s.trans s2) p R2 r3
    · cases e2
/-- a slot's own list goes to the shared heap -/
theorem ms_retS {e : Expr} {m : M D} {pos : Pos} (he : PE X e (Te (kx X Tb) m)) : PS X (.Return (some e) pos) (Ts (kx X Tb) (C.retS m)) := by
  refine ps_imp (ps_ret he) fun D σ H ⟨B, F, rho, om, z, R, f, z', e, k⟩ => ?_
  obtain ⟨x, z1, e1, e2⟩ := bnd_some e
  refine ⟨B, F, rho, om, z, R, x, z1, e1, fun F1 rho1 H1 v s p R1 r1 => ?_⟩
  cases r1 with
  | pure r1 => cases x <;> first | (cases e2; done) | (cases r1; done)
  | @own i a h =>
    dsimp only at e2
    split at e2
    · rename_i ds hs
      cases e2
      obtain ⟨a', h1, h2, h5⟩ := R1.sl i _ hs
      rw [h] at h1
      cases h1
      have f0 := R1.freshOwn h
      obtain ⟨R2, q2⟩ := (R1.forget i).share (d := .lst ds) f0 h5
      exact k F1 _ _ σ H1 _ s (p.trans (List.prefix_append _ _)) R2 (.ref q2)
    · cases e2
theorem ms_retN {pos : Pos} : PS X (.Return none pos) (Ts (kx X Tb) C.retN) := by
  refine ps_imp ps_retN fun D σ H ⟨B, F, rho, om, z, R, f, z', e, k⟩ => ?_
  cases e
  exact k F rho om σ H .non (Same.refl _) (List.prefix_refl _) R .non
theorem ms_if {c : Expr} {a b : List Stmt} {t : M Bool} {ca cb : C} {pos : Pos} (hc : PT X c (Tt (kx X Tb) t)) (ha : PSs X a (Ts (kx X Tb) ca)) (hb : PSs X b (Ts (kx X Tb) cb)) : PS X (.If c a b pos) (Ts (kx X Tb) (C.ite t ca cb)) := by
  refine ps_imp (ps_if hc ha hb) fun D σ H ⟨B, F, rho, om, z, R, f, z', e, k⟩ => ?_
  obtain ⟨x, z1, e1, e2⟩ := bnd_some e
  refine ⟨B, F, rho, om, z, R, x, z1, e1, fun F1 rho1 H1 v s p R1 r1 => ?_⟩
  have r1 : v = x := r1
  subst r1
  cases v with
  | true => exact ⟨B, F1, rho1, om, z1, R1, f, z', e2, k.mono s p⟩
  | false => exact ⟨B, F1, rho1, om, z1, R1, f, z', e2, k.mono s p⟩
/-- name = e -/
theorem ms_set {i : Nat} {x : Str} {e : Expr} {m : M D} {pos pos' : Pos} (hN : X.N.Nodup) (he : PE X e (Te (kx X Tb) m)) (hi : X.N[i]? = some x := by rfl) (hx : Loc X.env.scope x := by first | exact Or.inl rfl | exact Or.inr rfl)
    (hs : swapsWith e (some (.Name x pos')) pos.line X.env = pure false := by rfl) (hf : X.fn x = true ∨ X.env.scope.names.lookup x = some .local := by first | exact .inl rfl | exact .inr rfl) : PS X (.Assign [.Name x pos'] e pos) (Ts (kx X Tb) (C.set i m)) := by
  refine ps_imp (ps_set hN hi hx he hs hf) fun D σ H ⟨B, F, rho, om, z, R, f, z', e, k⟩ => ?_
  obtain ⟨d, z1, e1, e2⟩ := bnd_some e
  refine ⟨B, F, rho, om, z, R, d, z1, e1, fun F1 rho1 H1 v s p R1 r1 => ?_⟩
  try dsimp only at e2
  split at e2
  · rename_i hp
    cases e2
    exact k F1 rho1 _ _ H1 s p (R1.setVal i (r1.of_pure hp))
  · cases e2
/-- name = a new list that the name owns -/
theorem own_go {K : Kx} {i : Nat} {m : M (List D)} {te : TE} (h : ∀ σ H Q, Tf K m σ H Q → te σ H Q) : ∀ D σ H, Ts K (C.own i m) D σ H → tAsg te (gName i) D σ H := by
  rintro D σ H ⟨B, F, rho, om, z, R, f, z', e, k⟩
  obtain ⟨ds, z1, e1, e2⟩ := bnd_some e
  refine h σ H _ ⟨B, F, rho, om, z, R, ds, z1, e1, fun F1 rho1 H1 v s p R1 ⟨a, xs, hv, ha, f0, r1⟩ => ?_⟩
  subst hv
  try dsimp only at e2
  split at e2
  · rename_i hl
    cases e2
    exact k F1 rho1 _ _ H1 s p (R1.setOwn i hl f0 ⟨xs, ha, r1⟩)
  · cases e2
theorem ms_own {i : Nat} {x : Str} {e : Expr} {m : M (List D)} {pos pos' : Pos} (hN : X.N.Nodup) (he : PE X e (Tf (kx X Tb) m)) (hi : X.N[i]? = some x := by rfl) (hx : Loc X.env.scope x := by first | exact Or.inl rfl | exact Or.inr rfl)
    (hs : swapsWith e (some (.Name x pos')) pos.line X.env = pure false := by rfl) (hf : X.fn x = true ∨ X.env.scope.names.lookup x = some .local := by first | exact .inl rfl | exact .inr rfl) : PS X (.Assign [.Name x pos'] e pos) (Ts (kx X Tb) (C.own i m)) :=
  ps_imp (ps_set hN hi hx he hs hf) (own_go fun _ _ _ h => h)
/-- a target = e -/
theorem asg_go {K : Kx} {g : G} {m : M D} {te : TE} (h : ∀ σ H Q, Te K m σ H Q → te σ H Q) : ∀ D σ H, Ts K (C.asg g m) D σ H → tAsg te (Tg K g) D σ H := by
  rintro D σ H ⟨B, F, rho, om, z, R, f, z', e, k⟩
  obtain ⟨d, z1, e1, e2⟩ := bnd_some e
  refine h σ H _ ⟨B, F, rho, om, z, R, d, z1, e1, fun F1 rho1 H1 v s p R1 r1 => ?_⟩
  try dsimp only at e2
  split at e2
  · rename_i hp
    split at e2
    · rename_i z2 hg
      cases e2
      exact ⟨B, F1, rho1, om, z1, d, R1, r1.of_pure hp, z', hg, fun om' σ' _ _ _ R2 => k F1 rho1 om' σ' H1 s p R2⟩
    · cases e2
  · cases e2
theorem ms_asg {tg e : Expr} {m : M D} {g : G} {pos : Pos} (he : PE X e (Te (kx X Tb) m)) (hg : PG X tg (Tg (kx X Tb) g)) (hs : swapsWithSole [tg] e pos.line X.env = pure false := by rfl) (hw : swappedStores [tg] e X.env = pure none := by rfl)
    (h1 : (assignEach [tg] X.env).map (·.2) = [assign tg X.env] := by rfl) : PS X (.Assign [tg] e pos) (Ts (kx X Tb) (C.asg g m)) := ps_imp (ps_asg he hg hs hw h1) (asg_go fun _ _ _ h => h)
/-- x op= e -/
def IpM (X : Cx) (op : Operator) (f : D → D → Z → Option D) : Prop := ∃ r : TIp, PIp X op r ∧ ∀ {Tb : Tbs} {B : Bs} {F : Hp} {rho : List Addr} {om : Nat → Option Addr} {z : Z} {σ : L2.St} {H : Hp} {x y : D} {xv yv : V} {d : D}, Rl (kx X Tb) B F rho om z σ H → Rp (kx X Tb) F rho x xv → Rv (kx X Tb) F rho om y yv → f x y z = some d →
    ∀ Q : VK, (∀ v, Rp (kx X Tb) F rho d v → Q v H) → r xv yv H Q
theorem ms_aug {i : Nat} {x : Str} {e : Expr} {m : M D} {op : Operator} {f : D → D → Z → Option D} {pos pos' : Pos} (hN : X.N.Nodup) (ho : IpM X op f) (he : PE X e (Te (kx X Tb) m)) (hi : X.N[i]? = some x := by rfl) (hx : Loc X.env.scope x := by first | exact Or.inl rfl | exact Or.inr rfl)
    (hf : X.fn x = true ∨ X.env.scope.names.lookup x = some .local := by first | exact .inl rfl | exact .inr rfl) : PS X (.AugAssign (.Name x pos') op e pos) (Ts (kx X Tb) (C.aug i f m)) := by
  obtain ⟨r, h1, h2⟩ := ho
  refine ps_imp (ps_aug hN hi hx he h1 hf) fun D σ H ⟨B, F, rho, om, z, R, f, z', e, k⟩ => ?_
  unfold C.aug at e
  split at e
  · rename_i x hx
    obtain ⟨xv, q1, q2⟩ := R.sl i _ hx
    obtain ⟨y, z1, e1, e2⟩ := bnd_some e
    refine ⟨xv, q1, B, F, rho, om, z, R, y, z1, e1, fun F1 rho1 H1 v s p R1 r1 => ?_⟩
    try dsimp only at e2
    split at e2
    · rename_i d hd
      split at e2
      · cases e2
        exact h2 R1 (q2.mono s p) r1 hd _ fun w q => k F1 rho1 _ _ H1 s p (R1.setVal i q)
      · cases e2
    · cases e2
  · cases e
theorem ip_two {K : Kx} {F : Hp} {rho : List Addr} {om : Nat → Option Addr} {z : Z} {x y : D} {xv yv : V} {d : D} {g : Int → Int → Int} {f : D → D → Z → Option D}
    (hf : ∀ x y z, f x y z = match x, y with | .int i, .int j => some (.int (g i j)) | _, _ => none) (rx : Rp K F rho x xv) (ry : Rv K F rho om y yv) (e : f x y z = some d) : ∃ i j, xv = .int i ∧ yv = .int j ∧ d = .int (g i j) := by
  obtain ⟨i, j, rfl, rfl, rfl, rfl, e⟩ := two_ints (g := fun i j => some (.int (g i j))) hf (.pure rx : Rv K F rho om x xv) ry e
  cases e
  exact ⟨i, j, rfl, rfl, rfl⟩
theorem i_add : IpM X .Add O.add := by
  refine ⟨_, ip_add, ?_⟩
  intro Tb B F rho om z σ H x y xv yv d R rx ry e Q k
  obtain ⟨i, j, rfl, rfl, rfl⟩ := ip_two (g := fun i j => i + j) (fun x y z => by cases x <;> cases y <;> rfl) rx ry e
  exact ⟨i, j, rfl, rfl, k _ (.int _)⟩
theorem i_sub : IpM X .Sub O.sub := by
  refine ⟨_, ip_sub, ?_⟩
  intro Tb B F rho om z σ H x y xv yv d R rx ry e Q k
  obtain ⟨i, j, rfl, rfl, rfl⟩ := ip_two (g := fun i j => i - j) (fun x y z => by cases x <;> cases y <;> rfl) rx ry e
  exact ⟨i, j, rfl, rfl, k _ (.int _)⟩
/-- a[i] = e -/
theorem ms_setIx {a i e : Expr} {ma mi me : M D} {p pos : Pos} (he : PE X e (Te (kx X Tb) me)) (ha : PE X a (Te (kx X Tb) ma)) (hi : PE X i (Te (kx X Tb) mi)) (hs : swapsWithSole [.Subscript a i p] e pos.line X.env = pure false := by rfl) (hw : swappedStores [.Subscript a i p] e X.env = pure none := by rfl)
    (h1 : (assignEach [.Subscript a i p] X.env).map (·.2) = [assign (.Subscript a i p) X.env] := by rfl) (hsub : ∀ v, assign (.Subscript a i p) X.env v = (do
      let ov ← holding [v] (eval a X.env)
      let iv ← holding [v, ov] (eval i X.env)
      standAt p
      holding [v, ov, iv] (setItem ov iv v)
      release [v, ov, iv] []) := by intro _; rfl) : PS X (.Assign [.Subscript a i p] e pos) (Ts (kx X Tb) (C.setIx ma mi me)) := by
  refine ps_imp (ps_asg he (pg_sub ha hi set_list hsub) hs hw h1) fun D σ H ⟨B, F, rho, om, z, R, f, z', e, k⟩ => ?_
  obtain ⟨d, z1, e1, e2⟩ := bnd_some e
  refine ⟨B, F, rho, om, z, R, d, z1, e1, fun F1 rho1 H1 v s1 p1 R1 r1 => ?_⟩
  obtain ⟨x, z2, e3, e4⟩ := bnd_some e2
  refine ⟨B, F1, rho1, om, z1, R1, x, z2, e3, fun F2 rho2 H2 w s2 p2 R2 r2 => ?_⟩
  obtain ⟨y, z3, e5, e6⟩ := bnd_some e4
  refine ⟨B, F2, rho2, om, z2, R2, y, z3, e5, fun F3 rho3 H3 u s3 p3 R3 r3 => ?_⟩
  try dsimp only at e6
  split at e6
  · rename_i hp
    have rd : Rp (kx X Tb) F3 rho3 d v := ((r1.of_pure hp).mono s2 p2).mono s3 p3
    have r2' := r2.mono s3 p3
    have fin : ∀ {ds ds' : List Mi.D} {xs : List V} {j : Int}, U.setAt ds j d = some ds' → Rps (kx X Tb) F3 rho3 ds xs → ∃ jj, ixN xs.length j = some jj ∧ Rps (kx X Tb) F3 rho3 ds' (xs.set jj v) := fun {ds ds' xs j} h q => by
      unfold U.setAt at h
      cases hj : ixN ds.length j with
      | none => rw [hj] at h; cases h
      | some jj =>
        rw [hj] at h
        cases h
        exact ⟨jj, by rw [← q.length]; exact hj, q.set rd jj⟩
    split at e6
    · rename_i kk j
      obtain rfl := rv_int r3
      cases r2' with
      | pure r2' => cases r2'
      | own h =>
        split at e6
        · rename_i ds hs
          split at e6
          · rename_i ds' hd
            cases e6
            obtain ⟨a', h1, h5, h2⟩ := R3.sl _ _ hs
            rw [h] at h1
            cases h1
            obtain ⟨ys, h3, h4⟩ := h2
            obtain ⟨jj, hj, q⟩ := fin hd h4
            exact ⟨_, ys, j, jj, rfl, rfl, h3, hj, k F3 rho3 _ _ _ ((s1.trans s2).trans s3) ((p1.trans p2).trans p3) (R3.mutOwn h hs ⟨_, upd_same, q⟩)⟩
          · cases e6
        · cases e6
    · rename_i n j
      obtain rfl := rv_int r3
      cases r2' with
      | pure r2' =>
        cases r2' with
        | ref h =>
          split at e6
          · rename_i ds hs
            split at e6
            · rename_i ds' hd
              cases e6
              obtain ⟨ys, h3, h4⟩ := R3.rh.obs n _ _ hs h
              obtain ⟨jj, hj, q⟩ := fin hd h4
              exact ⟨_, ys, j, jj, rfl, rfl, h3, hj, k F3 rho3 _ _ _ ((s1.trans s2).trans s3) ((p1.trans p2).trans p3) (R3.mutRef h ⟨_, upd_same, q⟩)⟩
            · cases e6
          · cases e6
    · cases e6
  · cases e6

/-! ### loops -/
theorem ms_for {tg iter : Expr} {body : List Stmt} {mi : M It} {g : G} {b : C} {pos : Pos} (hp : PassesOwn (model X.prog X.w) X.A X.env X.xe) (hc : X.calm = true) (hi : PI X tg iter (Ti (kx X Tb) mi)) (hn : noOwn mi) (hg : PG X tg (Tg (kx X Tb) g)) (hb : PSs X body (Ts (kx X Tb) b))
    (hs : ∀ x, foldedSetIterable iter X.env x = pure x := by intro _; rfl) : PS X (.For tg iter body [] pos) (Ts (kx X Tb) (C.for_ mi g b)) := by
  refine ps_imp (ps_for hp hc hi hg hb hs) fun D σ H ⟨B, F, rho, om, z, R, f, z', e, k⟩ => ?_
  obtain ⟨it, z1, e1, e2⟩ := bnd_some e
  refine ⟨B, F, rho, om, z, R, it, z1, e1, fun F1 rho1 H1 J s1 p1 R1 ok => ?_⟩
  have hno := fun j => hn z it z1 j e1
  have k1 := k.mono s1 p1
  refine ⟨fun i m σ H => ∃ F2 rho2 om2 z2, Same F1 F2 ∧ rho1 <+: rho2 ∧ Rl (kx X Tb) B F2 rho2 om2 z2 σ H ∧ m = it.items.length - i ∧ i ≤ it.items.length ∧ C.loop it g b (it.items.drop i) z2 = some (f, z'),
    ⟨_, F1, rho1, om, z1, Same.refl _, List.prefix_refl _, R1, rfl, Nat.zero_le _, e2⟩, ?_⟩
  rintro i m σ2 H2 ⟨F2, rho2, om2, z2, s2, p2, R2, rfl, hi, hl⟩
  cases hd : it.items.drop i with
  | nil =>
    rw [hd] at hl
    have hl : (if it.ok z2 = true then some (Fl.nx, z2) else none) = some (f, z') := hl
    split at hl
    · rename_i hok
      cases hl
      have hi2 : it.items.length ≤ i := by
        have := List.drop_eq_nil_iff.mp hd
        exact this
      obtain ⟨o1, o2⟩ := ok B F2 rho2 om2 _ σ2 H2 s2 p2 R2 (.inr hno) hok
      exact .inl ⟨o1 i hi2, k1 F2 rho2 om2 σ2 H2 s2 p2 R2⟩
    · cases hl
  | cons d ds =>
    rw [hd] at hl
    have hds : it.items.drop (i + 1) = ds := by rw [← List.drop_drop, hd]; rfl
    have hget : it.items[i]? = some d := by
      have := List.getElem?_drop (xs := it.items) (i := i) (j := 0)
      rw [hd] at this
      simpa using this.symm
    have hlt : i < it.items.length := (List.getElem?_eq_some_iff.mp hget).1
    unfold C.loop at hl
    split at hl
    · rename_i hok
      obtain ⟨o1, o2⟩ := ok B F2 rho2 om2 z2 σ2 H2 s2 p2 R2 (.inr hno) hok
      obtain ⟨g1, y1⟩ := o2 i d hget
      split at hl
      · cases hl
      · rename_i z3 hg3
        cases hb4 : b z3 with
        | none =>
          rw [hb4] at hl
          cases hl
        | some q4 =>
          obtain ⟨f4, z4⟩ := q4
          rw [hb4] at hl
          refine .inr ⟨g1, fun σ' H' => ∃ F' rho' om', Same F2 F' ∧ rho2 <+: rho' ∧ Rl (kx X Tb) B F' rho' om' z4 σ' H' ∧ C.loop it g b ds z4 = some (f, z'), ?_, fun x H3 hy => ?_⟩
          · rintro σ' H' ⟨F', rho', om', s', p', R', hl'⟩
            exact ⟨it.items.length - (i + 1), by omega, F', rho', om', z4, s2.trans s', p2.trans p', R', rfl, hlt, by rw [hds]; exact hl'⟩
          · obtain ⟨rfl, F3, s23, _, R23, rx⟩ := y1 x H3 hy
            refine ⟨B, F3, rho2, om2, z2, d, R23, rx, z3, hg3, fun om3 σ3 _ _ _ R3 => ⟨B, F3, rho2, om3, z3, R3, f4, z4, hb4, ?_⟩⟩
            cases f4 with
            | nx => exact fun F' rho' om' σ' H' s' p' R' => ⟨F', rho', om', s23.trans s', p', R', hl⟩
            | ct => exact fun F' rho' om' σ' H' s' p' R' => ⟨F', rho', om', s23.trans s', p', R', hl⟩
            | bk =>
              cases hl
              exact fun F' rho' om' σ' H' s' p' R' => k1 F' rho' om' σ' H' (s2.trans (s23.trans s')) (p2.trans p') R'
            | rt d4 =>
              cases hl
              exact fun F' rho' om' σ' H' v s' p' R' r => k1 F' rho' om' σ' H' v (s2.trans (s23.trans s')) (p2.trans p') R' r
    · cases hl
/-- so many turns -/
def whlF (t : M Bool) (b : C) : Nat → C
  | 0, _ => none
  | n + 1, z => match t z with
    | none => none
    | some (false, z1) => some (.nx, z1)
    | some (true, z1) => match b z1 with
      | none => none
      | some (.nx, z2) => whlF t b n z2
      | some (.ct, z2) => whlF t b n z2
      | some (.bk, z2) => some (.nx, z2)
      | some (.rt d, z2) => some (.rt d, z2)
theorem whl_F {t : M Bool} {b : C} : ∀ z r, C.whl t b z = some r → ∃ n, whlF t b n z = some r := by
  refine C.whl.partial_correctness t b _ fun w ih z r h => ?_
  split at h
  · cases h
  · rename_i z1 ht
    refine ⟨1, ?_⟩
    unfold whlF
    rw [ht]
    exact h
  · rename_i z1 ht
    split at h
    · cases h
    · rename_i z2 hb
      obtain ⟨n, hn⟩ := ih _ _ h
      refine ⟨n + 1, ?_⟩
      unfold whlF
      rw [ht]
      dsimp only
      rw [hb]
      exact hn
    · rename_i z2 hb
      obtain ⟨n, hn⟩ := ih _ _ h
      refine ⟨n + 1, ?_⟩
      unfold whlF
      rw [ht]
      dsimp only
      rw [hb]
      exact hn
    · rename_i z2 hb
      refine ⟨1, ?_⟩
      unfold whlF
      rw [ht]
      dsimp only
      rw [hb]
      exact h
    · rename_i d z2 hb
      refine ⟨1, ?_⟩
      unfold whlF
      rw [ht]
      dsimp only
      rw [hb]
      exact h
theorem ms_whl {c : Expr} {body : List Stmt} {t : M Bool} {b : C} {pos : Pos} (hp : PassesOwn (model X.prog X.w) X.A X.env X.xe) (hc : PT X c (Tt (kx X Tb) t)) (hb : PSs X body (Ts (kx X Tb) b)) : PS X (.While c body [] pos) (Ts (kx X Tb) (C.whl t b)) := by
  refine ps_imp (ps_while hp hc hb) fun D σ H ⟨B, F, rho, om, z, R, f, z', e, k⟩ => ?_
  obtain ⟨n, hn⟩ := whl_F _ _ e
  refine ⟨fun m σ H => ∃ F2 rho2 om2 z2, Same F F2 ∧ rho <+: rho2 ∧ Rl (kx X Tb) B F2 rho2 om2 z2 σ H ∧ whlF t b m z2 = some (f, z'), ⟨n, F, rho, om, z, Same.refl _, List.prefix_refl _, R, hn⟩, ?_⟩
  rintro m σ2 H2 ⟨F2, rho2, om2, z2, s2, p2, R2, hl⟩
  cases m with
  | zero => cases hl
  | succ m =>
    unfold whlF at hl
    cases ht : t z2 with
    | none =>
      rw [ht] at hl
      cases hl
    | some q =>
      obtain ⟨k3, z3⟩ := q
      rw [ht] at hl
      refine ⟨B, F2, rho2, om2, z2, R2, k3, z3, ht, fun F3 rho3 H3 y s3 p3 R3 r3 => ?_⟩
      have r3 : y = k3 := r3
      subst r3
      cases y with
      | false =>
        cases hl
        exact k F3 rho3 _ _ _ (s2.trans s3) (p2.trans p3) R3
      | true =>
        dsimp only at hl
        cases hb4 : b z3 with
        | none =>
          rw [hb4] at hl
          cases hl
        | some q4 =>
          obtain ⟨f4, z4⟩ := q4
          rw [hb4] at hl
          refine ⟨fun σ' H' => ∃ F' rho' om', Same F3 F' ∧ rho3 <+: rho' ∧ Rl (kx X Tb) B F' rho' om' z4 σ' H' ∧ whlF t b m z4 = some (f, z'), ?_, B, F3, rho3, om2, z3, R3, f4, z4, hb4, ?_⟩
          · rintro σ' H' ⟨F', rho', om', s', p', R', hl'⟩
            exact ⟨m, Nat.lt_succ_self m, F', rho', om', z4, (s2.trans s3).trans s', (p2.trans p3).trans p', R', hl'⟩
          · cases f4 with
            | nx => exact fun F' rho' om' σ' H' s' p' R' => ⟨F', rho', om', s', p', R', hl⟩
            | ct => exact fun F' rho' om' σ' H' s' p' R' => ⟨F', rho', om', s', p', R', hl⟩
            | bk =>
              cases hl
              exact fun F' rho' om' σ' H' s' p' R' => k F' rho' om' σ' H' ((s2.trans s3).trans s') ((p2.trans p3).trans p') R'
            | rt d4 =>
              cases hl
              exact fun F' rho' om' σ' H' v s' p' R' r => k F' rho' om' σ' H' v ((s2.trans s3).trans s') ((p2.trans p3).trans p') R' r
end
end Mi

set_option Elab.async false
set_option linter.all false
set_option maxRecDepth 100000
/-! Mi, part G: comprehensions; a def by its body. -/
namespace Mi
open PySem PySem.Spec PyProof.Rows L2

section
variable {K : Kx} {B : Bs} {F F' : Hp} {rho rho' : List Addr} {om om' : Nat → Option Addr} {z z' : Z} {σ σ' : L2.St} {H H' : Hp} {a p : Addr} {d : D} {v : V} {o : HO}
/-- an object of nobody's is changed -/
theorem Rl.mutFresh (R : Rl K B F rho om z σ H) (f : Fresh K B F rho om H p) (hn : NT o := by exact fun _ e => nomatch e) : Rl K B F rho om z σ (upd H p o) ∧ Fresh K B F rho om (upd H p o) p := by
  have nr : ∀ (n : Nat) a, rho[n]? = some a → a ≠ p := fun n a e q => f.r n (by rw [← q]; exact e)
  have no : ∀ (i : Nat) a, om i = some a → a ≠ p := fun i a e q => f.o i (by rw [← q]; exact e)
  refine ⟨⟨R.rh.mono1 (fun _ _ e => e) (Same.upd_out R.rh.fro f.f) (fun n a e => upd_ne (nr n a e)) R.rh.nf (R.rh.tb.mono (fun _ _ e => e) (fun q hq => upd_ne (f.k q hq)) R.rh.tb.nf), R.len, fun i x e => (R.sl i x e).mono (fun _ _ e => e) (List.prefix_refl _) (fun a e => upd_ne (no i a e)) rfl, R.oj, R.orr, R.off,
    fun i a e => by rw [upd_ne (no i a e)]; exact R.oth i a e, fun a u e m => ?_, R.exf, R.exr, R.nF, R.nr, R.no, R.ow, R.to, R.mt⟩, ⟨f.f, f.r, f.o, f.b, ⟨_, upd_same, hn⟩, f.k⟩⟩
  have c : a ≠ p := fun c => by
    subst c
    rcases f.b with h | h
    · exact m h
    · rw [h] at e
      cases e
  rw [upd_ne c]
  exact R.frm a u e m
theorem Rl.wipe1 (R : Rl K B F rho om z σ H) {i : Nat} (h : om i = none) : Rl K B F rho om ⟨z.s.set i .no, z.h⟩ (σ.set i none) H := by
  refine ⟨R.rh, by simp only [List.length_set]; exact R.len, fun j x e => ?_, R.oj, R.orr, R.off, R.oth, R.frm, R.exf, R.exr, R.nF, R.nr, R.no, fun j a e => ?_, R.to, R.mt⟩
  · have e : (z.s.set i .no)[j]? = some x := e
    by_cases c : j = i
    · subst c
      have hl : j < z.s.length := by
        have := (List.getElem?_eq_some_iff.mp e).1
        simpa using this
      rw [List.getElem?_set_self hl] at e
      cases e
      trivial
    · rw [List.getElem?_set_ne (Ne.symm c)] at e
      rw [List.getElem?_set_ne (Ne.symm c)]
      exact R.sl j x e
  · have c : ¬ j = i := fun c => by
      subst c
      rw [h] at e
      cases e
    obtain ⟨d', q⟩ := R.ow j a e
    exact ⟨d', by rw [← q]; exact List.getElem?_set_ne (Ne.symm c)⟩
theorem Rl.wipe (R : Rl K B F rho om z σ H) : ∀ {vs : List Nat}, (∀ v ∈ vs, om v = none) → Rl K B F rho om ⟨N.wipe z.s vs, z.h⟩ (L2.wipe σ vs) H
  | [], _ => R
  | v :: vs, h => (Rl.wipe R (vs := vs) fun w hw => h w (List.mem_cons_of_mem _ hw)).wipe1 (h v List.mem_cons_self)
end
theorem wipe_eq {σ σ2 : L2.St} {vs : List Nat} (hl : σ2.length = σ.length) (h : ∀ j, ¬ j ∈ vs → σ2[j]? = σ[j]?) : L2.wipe σ2 vs = L2.wipe σ vs := by
  have inn : ∀ {τ : L2.St} {vs : List Nat} {j : Nat}, j ∈ vs → j < τ.length → (L2.wipe τ vs)[j]? = some none := by
    intro τ vs
    induction vs with
    | nil => intro j h; cases h
    | cons v vs ih =>
      intro j h hj
      unfold L2.wipe
      by_cases c : v = j
      · subst c
        exact List.getElem?_set_self (by rw [wipe_length]; exact hj)
      · rw [List.getElem?_set_ne c]
        rcases List.mem_cons.mp h with q | q
        · exact absurd q.symm c
        · exact ih q hj
  refine List.ext_getElem? fun j => ?_
  by_cases c : j ∈ vs
  · by_cases hj : j < σ.length
    · rw [inn c hj, inn c (by rw [hl]; exact hj)]
    · rw [List.getElem?_eq_none (by rw [wipe_length]; omega), List.getElem?_eq_none (by rw [wipe_length]; omega)]
  · rw [wipe_out c, wipe_out c]
    exact h j c
theorem rest_out {s0 s : List Sl} : ∀ {vs : List Nat} {j : Nat}, ¬ j ∈ vs → (N.rest s0 s vs)[j]? = s[j]?
  | [], _, _ => rfl
  | v :: vs, j, h => by
    unfold N.rest
    have ih := rest_out (s0 := s0) (s := s) (vs := vs) (j := j) fun q => h (List.mem_cons_of_mem _ q)
    cases s0[v]? with
    | none => exact ih
    | some x =>
      have c : v ≠ j := fun c => h (by rw [c]; exact List.mem_cons_self)
      dsimp only
      rw [List.getElem?_set_ne c]
      exact ih
theorem rest_len {s0 s : List Sl} : ∀ {vs : List Nat}, (N.rest s0 s vs).length = s.length
  | [] => rfl
  | v :: vs => by
    unfold N.rest
    cases s0[v]? with
    | none => exact rest_len
    | some x =>
      dsimp only
      rw [List.length_set]
      exact rest_len
theorem rest_in {s0 s : List Sl} (hl : s0.length = s.length) : ∀ {vs : List Nat} {j : Nat}, j ∈ vs → (N.rest s0 s vs)[j]? = s0[j]?
  | [], _, h => by cases h
  | v :: vs, j, h => by
    unfold N.rest
    by_cases c : v = j
    · subst c
      cases q : s0[v]? with
      | none =>
        dsimp only
        have h1 : s0.length ≤ v := List.getElem?_eq_none_iff.mp q
        exact List.getElem?_eq_none (by rw [rest_len]; omega)
      | some x =>
        have h1 := (List.getElem?_eq_some_iff.mp q).1
        exact List.getElem?_set_self (by rw [rest_len]; omega)
    · have hj : j ∈ vs := by
        rcases List.mem_cons.mp h with q | q
        · exact absurd q.symm c
        · exact q
      cases q : s0[v]? with
      | none => exact rest_in hl hj
      | some x =>
        dsimp only
        rw [List.getElem?_set_ne c]
        exact rest_in hl hj
section
variable {K : Kx} {B : Bs} {F F' : Hp} {rho rho' : List Addr} {om om' : Nat → Option Addr} {z z' : Z} {σ σ' : L2.St} {H H' : Hp}
/-- behind a comprehension the names are what they were -/
theorem Rl.rest {H1 : Hp} {F1 : Hp} {rho1 : List Addr} {z1 : Z} {vs : List Nat} (R1 : Rl K B F1 rho1 om z1 σ H1) (s : Same F1 F) (p : rho1 <+: rho) (R : Rl K B F rho om z (L2.wipe σ vs) H) (hn : ∀ v ∈ vs, om v = none) : Rl K B F rho om ⟨N.rest z1.s z.s vs, z.h⟩ σ H := by
  have hl : z1.s.length = z.s.length := by rw [R1.len, R.len, wipe_length]
  refine ⟨R.rh, by rw [rest_len, ← hl]; exact R1.len, fun j x e => ?_, R.oj, R.orr, R.off, R.oth, R.frm, R.exf, R.exr, R.nF, R.nr, R.no, fun j a e => ?_, R.to, R.mt⟩
  · have e : (N.rest z1.s z.s vs)[j]? = some x := e
    by_cases c : j ∈ vs
    · rw [rest_in hl c] at e
      have q := R1.sl j x e
      cases x with
      | no => trivial
      | val d =>
        obtain ⟨v, h1, h2⟩ := q
        exact ⟨v, h1, h2.mono s p⟩
      | own d =>
        obtain ⟨a, h1, _⟩ := q
        rw [hn j c] at h1
        cases h1
    · rw [rest_out c] at e
      have q := R.sl j x e
      rw [wipe_out c] at q
      exact q
  · have c : ¬ j ∈ vs := fun c => by
      rw [hn j c] at e
      cases e
    obtain ⟨d', q⟩ := R.ow j a e
    exact ⟨d', by rw [← q]; exact rest_out c⟩
end
theorem szl_line : szl ≤ sizeLine := by decide
theorem lc_go {K : Kx} {mi : M It} {g : G} {vs : List Nat} {tt : M Bool} {te : M D} (hw : ∀ w ∈ g.ws, w ∈ vs) : ∀ σ H Q, Tf K (N.comp mi g vs tt te) σ H Q → tLc (Ti K mi) (Tg K g) (Tt K tt) (Te K te) vs σ H Q := by
  rintro σ H Q ⟨B, F, rho, om, z, R, xs, z', e, k⟩
  obtain ⟨it, z1, e1, e2⟩ := bnd_some e
  refine ⟨B, F, rho, om, z, R, it, z1, e1, fun F1 rho1 H1 J s1 p1 R1 ok D hD => ?_⟩
  try dsimp only at e2
  split at e2
  · rename_i hc
    split at e2
    · cases e2
    · rename_i accF zF hloop
      cases e2
      have hn : ∀ v ∈ vs, om v = none := fun v hv => by
        cases q : om v with
        | none => rfl
        | some a =>
          obtain ⟨d, hd⟩ := R1.ow v a q
          have := List.all_eq_true.mp hc.2 v hv
          rw [hd] at this
          cases this
      obtain ⟨R2, f2⟩ := R1.new (o := .lst []) hD
      refine ⟨fun i m H => ∃ F2 rho2 z2 acc accv, Same F1 F2 ∧ rho1 <+: rho2 ∧ Rl K B F2 rho2 om z2 (L2.wipe σ vs) H ∧ Fresh K B F2 rho2 om H D ∧ H D = some (.lst accv) ∧ Rps K F2 rho2 acc accv ∧ m = it.items.length - i ∧ i ≤ it.items.length ∧ acc.length ≤ i ∧ N.loop it g vs tt te (it.items.drop i) acc z2 = some (xs, zF),
        ⟨_, F1, rho1, _, [], [], Same.refl _, List.prefix_refl _, R2.wipe hn, f2, upd_same, .nil, rfl, Nat.zero_le _, Nat.le_refl _, hloop⟩, ?_⟩
      rintro i m H2 ⟨F2, rho2, z2, acc, accv, s2, p2, R2, f2, hD2, ra, rfl, hi, hal, hl⟩
      cases hd : it.items.drop i with
      | nil =>
        rw [hd] at hl
        have hl : (if it.ok z2 = true then some (acc, z2) else none) = some (xs, zF) := hl
        split at hl
        · rename_i hok
          cases hl
          have hi2 : it.items.length ≤ i := List.drop_eq_nil_iff.mp hd
          obtain ⟨o1, o2⟩ := ok B F2 rho2 om _ _ H2 s2 p2 R2 (.inl rfl) hok
          exact .inl ⟨o1 i hi2, k F2 rho2 H2 _ (s1.trans s2) (p1.trans p2) (R1.rest s2 p2 R2 hn) ⟨D, accv, rfl, hD2, f2, ra⟩⟩
        · cases hl
      | cons d ds =>
        rw [hd] at hl
        have hds : it.items.drop (i + 1) = ds := by rw [← List.drop_drop, hd]; rfl
        have hget : it.items[i]? = some d := by
          have := List.getElem?_drop (xs := it.items) (i := i) (j := 0)
          rw [hd] at this
          simpa using this.symm
        have hlt : i < it.items.length := (List.getElem?_eq_some_iff.mp hget).1
        unfold N.loop at hl
        split at hl
        · rename_i hok
          obtain ⟨o1, o2⟩ := ok B F2 rho2 om z2 _ H2 s2 p2 R2 (.inl rfl) hok
          obtain ⟨g1, y1⟩ := o2 i d hget
          split at hl
          · cases hl
          · rename_i zg hg3
            cases ht : tt zg with
            | none =>
              rw [ht] at hl
              cases hl
            | some q4 =>
              obtain ⟨b4, zt⟩ := q4
              rw [ht] at hl
              refine .inr ⟨g1, fun H' => ∃ F3 rho3 z3 acc3 accv3, Same F2 F3 ∧ rho2 <+: rho3 ∧ Rl K B F3 rho3 om z3 (L2.wipe σ vs) H' ∧ Fresh K B F3 rho3 om H' D ∧ H' D = some (.lst accv3) ∧ Rps K F3 rho3 acc3 accv3 ∧ acc3.length ≤ i + 1 ∧ N.loop it g vs tt te ds acc3 z3 = some (xs, zF), ?_, fun x H3 hy => ?_⟩
              · rintro H' ⟨F3, rho3, z3, acc3, accv3, s3, p3, R3, f3, hD3, ra3, hl3, hll⟩
                exact ⟨it.items.length - (i + 1), by omega, F3, rho3, z3, acc3, accv3, s2.trans s3, p2.trans p3, R3, f3, hD3, ra3, rfl, hlt, hl3, by rw [hds]; exact hll⟩
              · obtain ⟨rfl, F2a, s2a, n2a, R2a, rx⟩ := y1 x H3 hy
                have ra := ra.mono s2a (List.prefix_refl _)
                have f2 : Fresh K B F2a rho2 om _ D := ⟨n2a _ _ hD2 (fun _ e => nomatch e) f2.f, f2.r, f2.o, f2.b, f2.t, f2.k⟩
                refine ⟨B, F2a, rho2, om, z2, d, R2a, rx, zg, hg3, fun om' σ' hw' hl' hom Rg => ?_⟩
                have eom : om' = om := by
                  funext j
                  by_cases c : j ∈ g.ws
                  · rw [hn j (hw j c)]
                    cases q : om' j with
                    | none => rfl
                    | some a =>
                      have := hom j a q
                      rw [hn j (hw j c)] at this
                      cases this
                  · exact (hw' j c).1
                subst eom
                have ew : L2.wipe σ' vs = L2.wipe σ vs := by
                  refine wipe_eq (hl'.trans (wipe_length _ _)) fun j c => ?_
                  rw [(hw' j fun q => c (hw j q)).2, wipe_out c]
                refine ⟨ew, _, F2a, rho2, om', zg, Rg.reb, b4, zt, ht, fun F3 rho3 H3 y s3 p3 R3 r3 => ?_⟩
                have r3 : y = b4 := r3
                subst r3
                obtain ⟨f3, hD3⟩ := f2.through R3 fun i h => h
                rw [hD2] at hD3
                have R3b := Rg.back R3
                cases y with
                | true =>
                  refine iteT ?_
                  dsimp only at hl
                  cases hte : te zt with
                  | none =>
                    rw [hte] at hl
                    cases hl
                  | some q5 =>
                    obtain ⟨x5, z5⟩ := q5
                    rw [hte] at hl
                    dsimp only at hl
                    split at hl
                    · rename_i hp5
                      refine ⟨_, F3, rho3, om', zt, R3b.reb, x5, z5, hte, fun F4 rho4 H4 w s4 p4 R4 r4 => ?_⟩
                      obtain ⟨f4, hD4⟩ := f3.through R4 fun i h => h
                      rw [hD3] at hD4
                      have R4b := R3b.back R4
                      have hzl : accv.length < sizeLine := by
                        rw [← ra.length]
                        exact Nat.lt_of_lt_of_le (Nat.lt_of_le_of_lt hal (Nat.lt_of_lt_of_le hlt hc.1)) szl_line
                      refine ⟨accv, hD4, hzl, ?_⟩
                      obtain ⟨R5, f5⟩ := R4b.mutFresh (o := .lst (accv ++ [w])) f4
                      have R6 := R5.wipe hn
                      rw [ew] at R6
                      exact ⟨F4, rho4, _, acc ++ [x5], accv ++ [w], s2a.trans (s3.trans s4), p3.trans p4, R6, f5, upd_same, ((ra.mono s3 p3).mono s4 p4).append (.one (r4.of_pure hp5)), by rw [List.length_append, List.length_singleton]; omega, hl⟩
                    · cases hl
                | false =>
                  refine iteF ?_
                  have R6 := R3b.wipe hn
                  rw [ew] at R6
                  exact ⟨F3, rho3, _, acc, accv, s2a.trans s3, p3, R6, f3, hD3, ra.mono s3 p3, by omega, hl⟩
        · cases hl
  · cases e2
theorem frz_go {K : Kx} {m : M (List D)} : ∀ σ H Q, Te K (E.frz m) σ H Q → Tf K m σ H Q := by
  rintro σ H Q ⟨B, F, rho, om, z, g⟩
  refine (g.bnd.imp fun _ _ H1 _ _ v _ _ _ _ _ ⟨F2, rho2, z2, xs, eg1, s1, p1, ⟨p, vs, hv, hp, f, r1⟩, g1⟩ => ?_).tx (R := rF K)
  subst hv
  obtain ⟨R, d, z4, e, k⟩ := g1
  cases e
  obtain ⟨R3, s3⟩ := R.lay f hp
  exact k _ rho2 _ _ s3 (List.prefix_refl _) R3 (.pure (.lst upd_same (r1.mono s3 (List.prefix_refl _))))
theorem set_go {K : Kx} {i : Nat} {m : M D} {te : TE} (h : ∀ σ H Q, Te K m σ H Q → te σ H Q) : ∀ D σ H, Ts K (C.set i m) D σ H → tAsg te (gName i) D σ H := by
  rintro D σ H ⟨B, F, rho, om, z, R, f, z', e, k⟩
  obtain ⟨d, z1, e1, e2⟩ := bnd_some e
  refine h σ H _ ⟨B, F, rho, om, z, R, d, z1, e1, fun F1 rho1 H1 v s p R1 r1 => ?_⟩
  try dsimp only at e2
  split at e2
  · rename_i hp
    cases e2
    exact k F1 rho1 _ _ H1 s p (R1.setVal i (r1.of_pure hp))
  · cases e2
theorem mts_nil {X : Cx} : PTs X [] (Tt (kx X Tb) (ret true)) := pts_imp pts_nil fun σ H Q ⟨B, F, rho, om, z, g⟩ => g.ret true rfl
theorem mts_one {X : Cx} {c : Expr} {t : M Bool} (h : PT X c (Tt (kx X Tb) t)) : PTs X [c] (Tt (kx X Tb) t) := pts_one h
section
variable {X : Cx} {Tb : Tbs} {elt tg iter : Expr} {ifs : List Expr} {scope : Scope} {own : List (Str × Nat)} {pos : Pos} {mi : M It} {g : G} {tt : M Bool} {te : M D}
theorem mf_lc (vs : List Nat) (hc : X.calm = true) (hN : X.N.Nodup) (hi : PI X tg iter (Ti (kx X Tb) mi)) (ok : BlkOk X.N X.env.scope scope own) (hv : own.map (·.2) = vs)
    (hg : ∀ (s : Shared) (H : Hp) (C : Addr) (cl : List (Str × Addr)) (fp : List Addr), PG (X.blk s H scope (compEnvC scope cl C X.env) fp) tg (Tg (kx X Tb) g)) (ht : ∀ (s : Shared) (H : Hp) (C : Addr) (cl : List (Str × Addr)) (fp : List Addr), PTs (X.blk s H scope (compEnvC scope cl C X.env) fp) ifs (Tt (kx X Tb) tt))
    (he : ∀ (s : Shared) (H : Hp) (C : Addr) (cl : List (Str × Addr)) (fp : List Addr), PE (X.blk s H scope (compEnvC scope cl C X.env) fp) elt (Te (kx X Tb) te)) (hw : ∀ w ∈ g.ws, w ∈ vs) (hs : ∀ x, foldedSetIterable iter X.env x = pure x := by intro _; rfl) :
    PE X (.ListComp elt [⟨tg, iter, ifs, 0⟩] scope pos) (Tf (kx X Tb) (N.comp mi g vs tt te)) := by
  subst hv
  exact pe_imp (pe_lc hc hN hi ok hg ht he hs) (lc_go hw)
/-- name = [..], the name a local: the name owns the list; the list is laid down -/
theorem ms_ownLc {i : Nat} {y : Str} {py spos : Pos} (vs : List Nat) (hc : X.calm = true) (hN : X.N.Nodup) (hy : X.N[i]? = some y) (hyl : X.env.scope.names.lookup y = some .local)
    (hsw : swapsWith (.ListComp elt [⟨tg, iter, ifs, 0⟩] scope pos) (some (.Name y py)) spos.line X.env = pure true) (hi : PI X tg iter (Ti (kx X Tb) mi)) (ok : BlkOk X.N X.env.scope scope own) (hv : own.map (·.2) = vs)
    (hg : ∀ (s : Shared) (H : Hp) (C : Addr) (cl : List (Str × Addr)) (fp : List Addr), PG (X.blk s H scope (compEnvC scope cl C X.env) fp) tg (Tg (kx X Tb) g)) (ht : ∀ (s : Shared) (H : Hp) (C : Addr) (cl : List (Str × Addr)) (fp : List Addr), PTs (X.blk s H scope (compEnvC scope cl C X.env) fp) ifs (Tt (kx X Tb) tt))
    (he : ∀ (s : Shared) (H : Hp) (C : Addr) (cl : List (Str × Addr)) (fp : List Addr), PE (X.blk s H scope (compEnvC scope cl C X.env) fp) elt (Te (kx X Tb) te)) (hw : ∀ w ∈ g.ws, w ∈ vs) (hs : ∀ x, foldedSetIterable iter X.env x = pure x := by intro _; rfl) :
    PS X (.Assign [.Name y py] (.ListComp elt [⟨tg, iter, ifs, 0⟩] scope pos) spos) (Ts (kx X Tb) (C.own i (N.comp mi g vs tt te))) := by
  subst hv
  exact ps_imp (ps_setLc hc hN hy hyl hsw hi ok hg ht he hs) (own_go (lc_go hw))
theorem ms_frzLc {i : Nat} {y : Str} {py spos : Pos} (vs : List Nat) (hc : X.calm = true) (hN : X.N.Nodup) (hy : X.N[i]? = some y) (hyl : X.env.scope.names.lookup y = some .local)
    (hsw : swapsWith (.ListComp elt [⟨tg, iter, ifs, 0⟩] scope pos) (some (.Name y py)) spos.line X.env = pure true) (hi : PI X tg iter (Ti (kx X Tb) mi)) (ok : BlkOk X.N X.env.scope scope own) (hv : own.map (·.2) = vs)
    (hg : ∀ (s : Shared) (H : Hp) (C : Addr) (cl : List (Str × Addr)) (fp : List Addr), PG (X.blk s H scope (compEnvC scope cl C X.env) fp) tg (Tg (kx X Tb) g)) (ht : ∀ (s : Shared) (H : Hp) (C : Addr) (cl : List (Str × Addr)) (fp : List Addr), PTs (X.blk s H scope (compEnvC scope cl C X.env) fp) ifs (Tt (kx X Tb) tt))
    (he : ∀ (s : Shared) (H : Hp) (C : Addr) (cl : List (Str × Addr)) (fp : List Addr), PE (X.blk s H scope (compEnvC scope cl C X.env) fp) elt (Te (kx X Tb) te)) (hw : ∀ w ∈ g.ws, w ∈ vs) (hs : ∀ x, foldedSetIterable iter X.env x = pure x := by intro _; rfl) :
    PS X (.Assign [.Name y py] (.ListComp elt [⟨tg, iter, ifs, 0⟩] scope pos) spos) (Ts (kx X Tb) (C.set i (E.frz (N.comp mi g vs tt te)))) := by
  subst hv
  exact ps_imp (ps_setLc hc hN hy hyl hsw hi ok hg ht he hs) (set_go fun σ H Q h => lc_go hw σ H Q (frz_go σ H Q h))
end

/-! ### a def by its body -/
theorem fn_body {K : Kx} {sc : Scope} {N ps : List Str} {b : C} {vs : List V} {H : Hp} {Q : VK} {E : XK} (S : FnScope N ps sc) (h : spM ps.length K (fn N.length ps.length b) vs H Q E) : Ts K b { nx := fun _ H' => Q .non H', rt := Q } (start N vs) H := by
  obtain ⟨hl, F0, rho, h0, ds, rh, rp, d, h', e, kk⟩ := h
  have hN : ps.length ≤ N.length := by
    have := congrArg List.length S.pre
    rw [List.length_take] at this
    omega
  have R0 := Rl.begin (N := N) rh rp (by omega)
  unfold fn at e
  split at e
  · cases hb2 : b ⟨slots N.length ds, h0⟩ with
    | none =>
      rw [hb2] at e
      cases e
    | some q =>
      obtain ⟨f1, z1⟩ := q
      rw [hb2] at e
      refine ⟨_, F0, rho, _, _, R0, f1, z1, hb2, ?_⟩
      have fin : ∀ {F' rho' om' σ' H' d v}, Rl K ⟨H, F0, rho, fun a => (∃ n : Nat, rho[n]? = some a) ∨ ∃ p ∈ K.tb.t, p.1 = a⟩ F' rho' om' z1 σ' H' → Rp K F' rho' d v → some (d, z1.h) = some ((d : D), h') → (∀ (F' : Hp) (rho' : List Addr) (H' : Hp) (v : V), Same F0 F' → rho <+: rho' → Rh K F' rho' h' H' → (∀ a o, H a = some o → (∀ n : Nat, ¬ rho[n]? = some a) → (∀ p ∈ K.tb.t, ¬ p.1 = a) → H' a = some o) →
          (∀ a o, H a = some o → NT o → F0 a = none → (∀ n : Nat, ¬ rho[n]? = some a) → F' a = none) → (∀ (n : Nat) a, rho'[n]? = some a → (∃ m : Nat, rho[m]? = some a) ∨ H a = none) → Rp K F' rho' d v → Q v H') → Q v H' := by
        intro F' rho' om' σ' H' d v R' r e kk
        cases e
        exact kk F' rho' H' v R'.exf R'.exr R'.rh (fun a o h1 h2 h3 => R'.frm a o h1 fun q => q.elim (fun ⟨n, q⟩ => h2 n q) fun ⟨p, hp, q⟩ => h3 p hp q) (fun a o h1 nt h2 h3 => by
            by_cases c : ∃ p ∈ K.tb.t, p.1 = a
            · obtain ⟨p, hp, rfl⟩ := c
              exact R'.rh.tb.nf p hp
            · exact R'.nF a o h1 nt h2 fun q => q.elim (fun ⟨n, q⟩ => h3 n q) c) (fun n a q => by
            rcases R'.nr n a q with (h | ⟨p, hp, rfl⟩) | h
            · exact .inl h
            · exact absurd q (R'.rh.tr p hp n)
            · exact .inr h) r
      cases f1 with
      | nx =>
        cases e
        exact fun F' rho' om' σ' H' s p R' => fin R' .non rfl kk
      | rt d' =>
        cases e
        exact fun F' rho' om' σ' H' v s p R' r => fin R' r rfl kk
      | bk => cases e
      | ct => cases e
  · cases e
theorem fn_ok {P : Program} {w : World} {K : Kx} {mg : Str → Option Value} {base : Heap} {x qual : Str} {st : Stmt} {f : Addr} {fd : FuncData} {N ps : List Str} {k n kk : Nat} {b : C} (F : Fun K x qual st f fd) (S : FnScope N ps (defScope st)) (hn : N.length = n) (hk : ps.length = kk)
    (hb : ∀ (cdv : Value) (A : Around) (outer : List Env) (s : Shared) (H : Hp) (E : XK), Room k (A.deeper (envOfC qual (defScope st) s.heap.objs.size f cdv)) → PSs (cxOf CX0 P w K mg base N qual (defScope st) f cdv A outer s H E).nox (defBody st) (Ts K b)) :
    FnOk P w K mg base CX0 (k + 1) f fd ps (spM kk K (fn n kk b)) := by
  subst hn hk
  refine F.ok S (fun vs H Q E h => h.1) fun cdv A outer s H vs Q E hr h => ⟨_, hb cdv A outer s H E hr, ?_⟩
  exact fn_body S h
end Mi

set_option Elab.async false
set_option linter.all false
set_option maxRecDepth 100000
/-! Mi, part H: the end of a law's row. -/
namespace Mi
open PySem PySem.Spec PyProof.Rows L2

theorem start_rh {K : PySem.W.Frag} {H : Hp} : Rh ⟨K, ⟨[], []⟩⟩ H [] [] H := ⟨Same.refl H, rfl, (fun _ _ _ h => by simp at h), (fun _ _ _ h => by simp at h), (fun _ _ h => by simp at h), ⟨(fun _ h => nomatch h), (fun _ h => nomatch h), fun _ h => nomatch h⟩, fun _ h => nomatch h⟩
theorem walk {l : PySem.W.OpenLaw} {k : Nat} {q : Program} {loose : List Str} {XP : (Str → Option Value) → Heap → Prop} {YP : World → Heap → Prop} {d : DefRec} {K : Params → PySem.W.Frag} {x : Str} {mf : Fn} (hn : l.most = some 63) (hdf : d.params.defaults = []) (hr : Room k callerA)
    (hY : ∀ (w : World) (h : Heap), YP w h → (K w.params).In h)
    (F : ∀ (w : World) (mg : Str → Option Value) (fa : Addr) (h : Heap), (K w.params).In h → h.Ns mainGlobals mg → mg d.name = some (.ref fa) →
      ∃ fd : FuncData, (∀ (s : Shared) (u : Value), BindsTo s fd ⟨[u], []⟩ [(x, u)]) ∧ ∀ base : Heap, (K w.params).In base → base.Ns mainGlobals mg → FnOk l.prog w (K w.params) mg base CX0 k fa fd [x] (spM 1 ⟨K w.params, ⟨[], []⟩⟩ mf))
    (law : ∀ ns : List Int, ns.length ≤ 63 → ∃ h', mf [.scr (ns.map D.int)] [] = some (.bl true, h')) : PySem.W.WalkO q loose XP YP l.row.toRowW d [] (fun f vs => PySem.call f vs) :=
  L2.walk_of (n := 63) (k := k) (x := x) (CX := fun _ => CX0) (sp := fun w => spM 1 ⟨K w.params, ⟨[], []⟩⟩ mf) hn (by decide) hdf hr hY F (fun w H a ns hl _ hS => by
    obtain ⟨h', e⟩ := law ns hl
    exact ⟨rfl, H, [], [], [.scr (ns.map D.int)], start_rh, .one (.scr hS (.ints ns)), _, h', e, fun F' rho' H' v _ _ _ _ _ _ r => by cases r; rfl⟩) fun _ _ _ _ _ z => z
end Mi

set_option Elab.async false
set_option linter.all false
set_option maxRecDepth 100000
/-! Mi, part V: how a meaning is worked out, rule by rule. -/
namespace Mi
open PySem PySem.Spec PyProof.Rows L2

/-! ### sizes -/
def Smn (n : Nat) (i : Int) : Prop := i.natAbs < 2 ^ n
theorem Smn.up {n : Nat} {i : Int} (h : Smn n i) (hn : n ≤ bigN) : smI i := Nat.lt_of_lt_of_le h (Nat.pow_le_pow_right (by decide) hn)
theorem Smn.mono {n m : Nat} {i : Int} (h : Smn n i) (hn : n ≤ m) : Smn m i := Nat.lt_of_lt_of_le h (Nat.pow_le_pow_right (by decide) hn)
theorem Smn.mul {n m : Nat} {i j : Int} (h : Smn n i) (h2 : Smn m j) : Smn (n + m) (i * j) := wide_lt h h2
theorem Smn.add {n m : Nat} {i j : Int} (h : Smn n i) (h2 : Smn m j) : Smn (max n m + 1) (i + j) := by
  have a := h.mono (Nat.le_max_left n m)
  have b := h2.mono (Nat.le_max_right n m)
  unfold Smn at *
  rw [Nat.pow_succ]
  omega
theorem Smn.sub {n m : Nat} {i j : Int} (h : Smn n i) (h2 : Smn m j) : Smn (max n m + 1) (i - j) := by
  have a := h.mono (Nat.le_max_left n m)
  have b := h2.mono (Nat.le_max_right n m)
  unfold Smn at *
  rw [Nat.pow_succ]
  omega
theorem Smn.neg {n : Nat} {i : Int} (h : Smn n i) : Smn n (-i) := by
  unfold Smn at *
  omega
theorem Smn.of {i : Int} (h : -9223372036854775808 ≤ i ∧ i ≤ 9223372036854775807) : Smn 64 i := by
  unfold Smn
  omega
theorem Smn.nat {n : Nat} (h : n < 2 ^ 64) : Smn 64 (OfNat.ofNat n : Int) := by
  unfold Smn
  exact h
theorem Smn.ite {n m : Nat} {i j : Int} {c : Prop} [Decidable c] (h : Smn n i) (h2 : Smn m j) : Smn (max n m) (if c then i else j) := by
  split
  · exact h.mono (Nat.le_max_left _ _)
  · exact h2.mono (Nat.le_max_right _ _)
theorem Smn.div {n : Nat} {i j : Int} (h : Smn n i) (hj : 0 < j) : Smn n (i / j) := by
  unfold Smn at *
  refine Nat.lt_of_le_of_lt ?_ h
  have h1 := Int.natAbs_ediv_le_natAbs i j
  exact h1
theorem Smn.mod {n : Nat} {i j : Int} (h : Smn n j) (hj : 0 < j) : Smn n (i % j) := by
  unfold Smn at *
  have h1 := Int.emod_nonneg i (show j ≠ 0 by omega)
  have h2 := Int.emod_lt_of_pos i hj
  omega

/-! ### rules -/
section
variable {z z1 z2 z3 : Z} {a b c : M D} {x y w d : D} {i j k : Int} {p q : Bool} {t u : M Bool} {s : List Sl} {h h' : List D}
end
def isNon : D → Bool
  | .non => true
  | _ => false
def noScr : D → Bool
  | .scr _ => false
  | _ => true
def itemsOf : D → Option (List D)
  | .lst ys => some ys
  | .tup ys => some ys
  | .scr ys => some ys
  | _ => none
section
variable {z z1 z2 z3 : Z} {a b c : M D} {x y w d : D} {i j k : Int} {p q : Bool} {t u : M Bool} {s : List Sl} {h h' : List D}
theorem ev_var {n : Nat} (e : z.s[n]? = some (.val d)) : E.var n z = some (d, z) := by
  unfold E.var
  rw [e]
theorem ev_varO {n : Nat} (e : z.s[n]? = some (.own d)) : E.var n z = some (.own n, z) := by
  unfold E.var
  rw [e]
theorem ev_c : E.c d z = some (d, z) := rfl
theorem bnd_of {α β : Type} {m : M α} {f : α → M β} {v : α} (h : m z = some (v, z1)) : bnd m f z = f v z1 := by
  unfold bnd
  rw [h]
theorem ev_op {f : D → D → Z → Option D} (h1 : a z = some (x, z1)) (h2 : b z1 = some (y, z2)) (h3 : f x y z2 = some d) : E.op f a b z = some (d, z2) := by
  unfold E.op
  rw [bnd_of h1, bnd_of h2, h3]
theorem ev_un {f : D → Z → Option D} (h1 : a z = some (x, z1)) (h3 : f x z1 = some d) : E.un f a z = some (d, z1) := by
  unfold E.un
  rw [bnd_of h1, h3]
theorem ev_add (h1 : a z = some (.int i, z1)) (h2 : b z1 = some (.int j, z2)) : E.op O.add a b z = some (.int (i + j), z2) := ev_op h1 h2 rfl
theorem ev_sub (h1 : a z = some (.int i, z1)) (h2 : b z1 = some (.int j, z2)) : E.op O.sub a b z = some (.int (i - j), z2) := ev_op h1 h2 rfl
theorem mul_v (hi : smI i) (hj : smI j) : O.mul (.int i) (.int j) z = some (.int (i * j)) := by
  unfold O.mul
  exact if_pos ⟨hi, hj⟩
theorem div_v (hi : 0 < j) (hj : smI j) : O.div (.int i) (.int j) z = some (.int (i / j)) := by
  unfold O.div
  exact if_pos ⟨hi, hj⟩
theorem mod_v (hi : 0 < j) : O.mod (.int i) (.int j) z = some (.int (i % j)) := by
  unfold O.mod
  exact if_pos hi
theorem ev_mul {n m : Nat} (h1 : a z = some (.int i, z1)) (h2 : b z1 = some (.int j, z2)) (hi : Smn n i) (hj : Smn m j) (hn : n ≤ bigN) (hm : m ≤ bigN) : E.op O.mul a b z = some (.int (i * j), z2) := ev_op h1 h2 (mul_v (hi.up hn) (hj.up hm))
theorem ev_div {m : Nat} (h1 : a z = some (.int i, z1)) (h2 : b z1 = some (.int j, z2)) (hi : 0 < j) (hj : Smn m j) (hm : m ≤ bigN) : E.op O.div a b z = some (.int (i / j), z2) := ev_op h1 h2 (div_v hi (hj.up hm))
theorem ev_mod (h1 : a z = some (.int i, z1)) (h2 : b z1 = some (.int j, z2)) (hi : 0 < j) : E.op O.mod a b z = some (.int (i % j), z2) := ev_op h1 h2 (mod_v hi)
theorem ev_neg (h1 : a z = some (.int i, z1)) : E.un O.neg a z = some (.int (-i), z1) := ev_un h1 rfl
theorem ev_lt (h1 : a z = some (.int i, z1)) (h2 : b z1 = some (.int j, z2)) : E.op O.lt a b z = some (.bl (decide (i < j)), z2) := ev_op h1 h2 rfl
theorem ev_le (h1 : a z = some (.int i, z1)) (h2 : b z1 = some (.int j, z2)) : E.op O.le a b z = some (.bl (decide (i ≤ j)), z2) := ev_op h1 h2 rfl
theorem ev_gt (h1 : a z = some (.int i, z1)) (h2 : b z1 = some (.int j, z2)) : E.op O.gt a b z = some (.bl (decide (j < i)), z2) := ev_op h1 h2 rfl
theorem ev_ge (h1 : a z = some (.int i, z1)) (h2 : b z1 = some (.int j, z2)) : E.op O.ge a b z = some (.bl (decide (j ≤ i)), z2) := ev_op h1 h2 rfl
theorem eqP_int : O.eqP (.int i) (.int j) z = some (decide (i = j)) := by
  show (if True ∧ True then some (i == j) else none) = _
  rw [if_pos ⟨trivial, trivial⟩, Bool.beq_eq_decide_eq]
theorem ev_eq {kk : Bool} (h1 : a z = some (x, z1)) (h2 : b z1 = some (y, z2)) (h3 : O.eqP x y z2 = some kk) : E.op O.eq a b z = some (.bl kk, z2) := ev_op h1 h2 (by unfold O.eq; rw [h3]; rfl)
theorem ev_ne {kk : Bool} (h1 : a z = some (x, z1)) (h2 : b z1 = some (y, z2)) (h3 : O.eqP x y z2 = some kk) : E.op O.ne a b z = some (.bl (!kk), z2) := ev_op h1 h2 (by unfold O.ne; rw [h3]; rfl)
theorem ev_eqI (h1 : a z = some (.int i, z1)) (h2 : b z1 = some (.int j, z2)) : E.op O.eq a b z = some (.bl (decide (i = j)), z2) := ev_eq h1 h2 eqP_int
theorem ev_neI (h1 : a z = some (.int i, z1)) (h2 : b z1 = some (.int j, z2)) : E.op O.ne a b z = some (.bl (!decide (i = j)), z2) := ev_ne h1 h2 eqP_int
theorem ev_ix {tt : Bool} {ds : List D} (h1 : a z = some (x, z1)) (h2 : b z1 = some (.int i, z2)) (h3 : cont x z2 = some (tt, ds)) (h4 : atI ds i = some d) : E.op O.ix a b z = some (d, z2) := ev_op h1 h2 (by unfold O.ix; rw [h3]; exact h4)
theorem ev_isN (h1 : a z = some (x, z1)) {kk : Bool} (h2 : isNon x = kk) : E.isN a z = some (.bl kk, z1) := by
  unfold E.isN
  rw [bnd_of h1, ← h2]
  cases x <;> rfl
theorem ev_notN (h1 : a z = some (x, z1)) {kk : Bool} (h2 : (!isNon x) = kk) : E.notN a z = some (.bl kk, z1) := by
  unfold E.notN
  rw [bnd_of h1, ← h2]
  cases x <;> rfl
theorem ev_args0 : E.args [] z = some ([], z) := rfl
theorem ev_args {as : List (M D)} {xs : List D} (h1 : a z = some (x, z1)) (h2 : E.args as z1 = some (xs, z2)) (hp : isPure x = true) : E.args (a :: as) z = some (x :: xs, z2) := by
  unfold E.args
  rw [bnd_of h1, bnd_of h2, if_pos hp]
  rfl
theorem ev_tup {as : List (M D)} {xs : List D} (h1 : E.args as z = some (xs, z1)) : E.tup as z = some (.tup xs, z1) := by
  unfold E.tup
  rw [bnd_of h1]
  rfl
theorem ev_frz {m : M (List D)} {xs : List D} (h1 : m z = some (xs, z1)) : E.frz m z = some (.lst xs, z1) := by
  unfold E.frz
  rw [bnd_of h1]
  rfl
theorem ev_shr {m : M (List D)} {xs : List D} (h1 : m z = some (xs, ⟨s, h⟩)) : E.shr m z = some (.ref h.length, ⟨s, h ++ [.lst xs]⟩) := by
  unfold E.shr
  rw [bnd_of h1]
theorem ev_disp {as : List (M D)} {xs : List D} (h1 : E.args as z = some (xs, z1)) : N.disp as z = some (xs, z1) := h1
theorem ev_call {mf : Fn} {as : List (M D)} {xs : List D} (h1 : E.args as z = some (xs, ⟨s, h⟩)) (h2 : mf xs h = some (d, h')) : E.call mf as z = some (d, ⟨s, h'⟩) := by
  unfold E.call
  rw [bnd_of h1]
  show (match mf xs h with | none => none | some (d, h') => some (d, _)) = _
  rw [h2]
theorem ev_blt1 {f : List D → Z → Option D} (h1 : a z = some (x, z1)) (h2 : f [x] z1 = some d) : E.blt f [a] z = some (d, z1) := by
  show bnd a _ z = _
  rw [bnd_of h1, h2]
theorem ev_blt2 {f : List D → Z → Option D} {xs : List D} (h1 : E.args [a, b] z = some (xs, z1)) (h2 : f xs z1 = some d) : E.blt f [a, b] z = some (d, z1) := by
  show bnd (E.args [a, b]) _ z = _
  rw [bnd_of h1, h2]
theorem ev_and (h1 : a z = some (.bl p, z)) (h2 : p = true → b z = some (.bl q, z)) : E.and a b z = some (.bl (p && q), z) := by
  unfold E.and
  rw [bnd_of h1]
  cases p with
  | true => exact h2 rfl
  | false => rfl
theorem ev_or (h1 : a z = some (.bl p, z)) (h2 : p = false → b z = some (.bl q, z)) : E.or a b z = some (.bl (p || q), z) := by
  unfold E.or
  rw [bnd_of h1]
  cases p with
  | false => exact h2 rfl
  | true => rfl
theorem ev_not (h1 : a z = some (.bl p, z1)) : E.not a z = some (.bl (!p), z1) := by
  unfold E.not
  rw [bnd_of h1]
  rfl
theorem ev_chain {f g : D → D → Z → Option D} (h1 : a z = some (x, z1)) (h2 : b z1 = some (y, z1)) (h3 : f x y z1 = some (.bl p)) (h4 : p = true → c z1 = some (w, z1)) (h5 : p = true → g y w z1 = some (.bl q)) : E.chain f g a b c z = some (.bl (p && q), z1) := by
  unfold E.chain
  rw [bnd_of h1, bnd_of h2, h3]
  cases p with
  | true =>
    dsimp only
    rw [bnd_of (h4 rfl), h5 rfl]
    rfl
  | false => rfl
theorem ev_iteT (h1 : t z = some (true, z1)) {r : Option (D × Z)} (h2 : a z1 = r) : E.ite t a b z = r := by
  unfold E.ite
  rw [bnd_of h1]
  exact h2
theorem ev_iteF (h1 : t z = some (false, z1)) {r : Option (D × Z)} (h2 : b z1 = r) : E.ite t a b z = r := by
  unfold E.ite
  rw [bnd_of h1]
  exact h2
theorem ev_iteI (h1 : t z = some (p, z1)) (h2 : p = true → a z1 = some (.int i, z2)) (h3 : p = false → b z1 = some (.int j, z2)) : E.ite t a b z = some (.int (if p = true then i else j), z2) := by
  unfold E.ite
  rw [bnd_of h1]
  cases p with
  | true => exact h2 rfl
  | false => exact h3 rfl
theorem ev_iteD (h1 : t z = some (p, z1)) (h2 : p = true → a z1 = some (x, z2)) (h3 : p = false → b z1 = some (y, z2)) : E.ite t a b z = some (if p = true then x else y, z2) := by
  unfold E.ite
  rw [bnd_of h1]
  cases p with
  | true => exact h2 rfl
  | false => exact h3 rfl
/-! tests -/
theorem tv (h1 : a z = some (.bl p, z1)) : T.val a z = some (p, z1) := by
  unfold T.val
  rw [bnd_of h1]
  rfl
theorem tt_tru (h1 : a z = some (x, z1)) (h2 : O.tru x z1 = some p) : T.tru a z = some (p, z1) := by
  unfold T.tru
  rw [bnd_of h1, h2]
theorem tt_and (h1 : t z = some (p, z)) (h2 : p = true → u z = some (q, z)) : T.and t u z = some (p && q, z) := by
  unfold T.and
  rw [bnd_of h1]
  cases p with
  | true => exact h2 rfl
  | false => rfl
theorem tt_or (h1 : t z = some (p, z)) (h2 : p = false → u z = some (q, z)) : T.or t u z = some (p || q, z) := by
  unfold T.or
  rw [bnd_of h1]
  cases p with
  | false => exact h2 rfl
  | true => rfl
theorem tt_not (h1 : t z = some (p, z1)) : T.not t z = some (!p, z1) := by
  unfold T.not
  rw [bnd_of h1]
  rfl
/-! new lists -/
theorem ev_ofSeq {tt : Bool} {ds : List D} (h1 : a z = some (x, z1)) (h2 : cont x z1 = some (tt, ds)) : N.ofSeq a z = some (ds, z1) := by
  unfold N.ofSeq
  rw [bnd_of h1, h2]
theorem ev_part0 : N.part none z = some (none, z) := rfl
theorem ev_part (h1 : a z = some (.int i, z1)) : N.part (some a) z = some (some i, z1) := by
  show bnd a _ z = _
  rw [bnd_of h1]
  rfl
theorem ev_slice {lo hi : Option (M D)} {l u : Option Int} {ds : List D} (h1 : a z = some (x, z1)) (h2 : N.part lo z1 = some (l, z2)) (h3 : N.part hi z2 = some (u, z3)) (h4 : cont x z3 = some (false, ds)) : N.slice a lo hi z = some (N.cutL ds l u, z3) := by
  unfold N.slice
  rw [bnd_of h1, bnd_of h2, bnd_of h3, h4]
theorem ev_cat {ds es : List D} (h1 : a z = some (x, z1)) (h2 : b z1 = some (y, z2)) (h3 : cont x z2 = some (false, ds)) (h4 : cont y z2 = some (false, es)) (hx : noScr x = true) (hy : noScr y = true) (hl : ds.length + es.length < szl) : N.cat a b z = some (ds ++ es, z2) := by
  unfold N.cat
  rw [bnd_of h1, bnd_of h2]
  try dsimp only
  split
  · cases hx
  · cases hy
  · rw [h3, h4]
    dsimp only
    rw [if_pos hl]
/-! changes -/
theorem ev_chgO {f : List D → List D → Option (D × List D)} {as : List (M D)} {xs ds ds0 ds' : List D} {n : Nat} (h1 : a z = some (.own n, z1)) (h0 : z1.s[n]? = some (.own (.lst ds0))) (h2 : E.args as z1 = some (xs, ⟨s, h⟩)) (h3 : s[n]? = some (.own (.lst ds))) (h4 : f ds xs = some (d, ds')) : E.chg f a as z = some (d, ⟨s.set n (.own (.lst ds')), h⟩) := by
  unfold E.chg
  rw [bnd_of h1]
  have hi : E.isLst (.own n) z1 = true := by
    show (cont (.own n) z1).isSome = true
    show (match z1.s[n]? with | some (.own (.lst xs)) => some (false, xs) | _ => none).isSome = true
    rw [h0]
    rfl
  try dsimp only
  rw [if_pos hi, bnd_of h2]
  show (match s[n]? with
    | some (.own (.lst ds)) => match f ds xs with
      | none => none
      | some (d, ds') => some (d, (⟨s.set n (.own (.lst ds')), h⟩ : Z))
    | _ => none) = _
  rw [h3]
  dsimp only
  rw [h4]
theorem ev_chgR {f : List D → List D → Option (D × List D)} {as : List (M D)} {xs ds ds0 ds' : List D} {n : Nat} (h1 : a z = some (.ref n, z1)) (h0 : z1.h[n]? = some (.lst ds0)) (h2 : E.args as z1 = some (xs, ⟨s, h⟩)) (h3 : h[n]? = some (.lst ds)) (h4 : f ds xs = some (d, ds')) : E.chg f a as z = some (d, ⟨s, h.set n (.lst ds')⟩) := by
  unfold E.chg
  rw [bnd_of h1]
  have hi : E.isLst (.ref n) z1 = true := by
    show (match z1.h[n]? with | some (.lst xs) => some (false, xs) | _ => none).isSome = true
    rw [h0]
    rfl
  try dsimp only
  rw [if_pos hi, bnd_of h2]
  show (match h[n]? with
    | some (.lst ds) => match f ds xs with
      | none => none
      | some (d, ds') => some (d, (⟨s, h.set n (.lst ds')⟩ : Z))
    | _ => none) = _
  rw [h3]
  dsimp only
  rw [h4]
theorem ixN0 {n : Nat} : ixN (n + 1) 0 = some 0 := by
  unfold ixN
  rw [if_pos (by decide), if_pos (by omega)]
  rfl
theorem popAt0 {ds : List D} : U.popAt (x :: ds) [.int 0] = some (x, ds) := by
  show (if -(2 ^ 63) ≤ (0 : Int) ∧ (0 : Int) < 2 ^ 63 then match ixN (ds.length + 1) 0 with
    | some k => match (x :: ds)[k]? with
      | some d => some (d, (x :: ds).eraseIdx k)
      | none => none
    | none => none else none) = _
  rw [if_pos (by decide), ixN0]
  rfl
theorem setAt0 {ds : List D} : U.setAt (x :: ds) 0 y = some (y :: ds) := by
  show (ixN (ds.length + 1) 0).map _ = _
  rw [ixN0]
  rfl
theorem append_v {ds : List D} (h : ds.length < szl) : U.append ds [x] = some (.non, ds ++ [x]) := if_pos h
/-! statements -/
variable {ca cb : C} {f : Fl} {r : Option (Fl × Z)}
theorem cs_skip : C.skip z = some (.nx, z) := rfl
theorem cs_nx (h1 : ca z = some (.nx, z1)) (h2 : cb z1 = r) : C.seq ca cb z = r := by
  unfold C.seq
  rw [h1]
  exact h2
theorem cs_rt (h1 : ca z = some (.rt d, z1)) : C.seq ca cb z = some (.rt d, z1) := by
  unfold C.seq
  rw [h1]
theorem cs_ct (h1 : ca z = some (.ct, z1)) : C.seq ca cb z = some (.ct, z1) := by
  unfold C.seq
  rw [h1]
theorem cs_bk (h1 : ca z = some (.bk, z1)) : C.seq ca cb z = some (.bk, z1) := by
  unfold C.seq
  rw [h1]
theorem cs_set {n : Nat} (h1 : a z = some (d, ⟨s, h⟩)) (hp : isPure d = true) : C.set n a z = some (.nx, ⟨s.set n (.val d), h⟩) := by
  unfold C.set
  rw [bnd_of h1]
  exact if_pos hp
theorem cs_own {n : Nat} {m : M (List D)} {ds : List D} (h1 : m z = some (ds, ⟨s, h⟩)) (hn : n < s.length) : C.own n m z = some (.nx, ⟨s.set n (.own (.lst ds)), h⟩) := by
  unfold C.own
  rw [bnd_of h1]
  exact if_pos hn
theorem cs_frz {n : Nat} {ds : List D} (h1 : s[n]? = some (.own (.lst ds))) : C.frz n ⟨s, h⟩ = some (.nx, ⟨s.set n (.val (.lst ds)), h⟩) := by
  unfold C.frz
  rw [h1]
theorem cs_drop (h1 : a z = some (d, z1)) : C.drop a z = some (.nx, z1) := by
  unfold C.drop
  rw [bnd_of h1]
theorem cs_ret (h1 : a z = some (d, z1)) (hp : isPure d = true) : C.ret a z = some (.rt d, z1) := by
  unfold C.ret
  rw [bnd_of h1]
  cases d <;> first | rfl | cases hp
theorem cs_retO {n : Nat} {ds : List D} (h1 : a z = some (.own n, ⟨s, h⟩)) (h2 : s[n]? = some (.own (.lst ds))) : C.ret a z = some (.rt (.lst ds), ⟨s.set n .no, h⟩) := by
  unfold C.ret
  rw [bnd_of h1]
  show (match s[n]? with | some (.own (.lst ds)) => some (Fl.rt (D.lst ds), (⟨s.set n .no, h⟩ : Z)) | _ => none) = _
  rw [h2]
theorem cs_retS {n : Nat} {ds : List D} (h1 : a z = some (.own n, ⟨s, h⟩)) (h2 : s[n]? = some (.own (.lst ds))) : C.retS a z = some (.rt (.ref h.length), ⟨s.set n .no, h ++ [D.lst ds]⟩) := by
  unfold C.retS
  rw [bnd_of h1]
  show (match s[n]? with | some (.own (.lst ds)) => some (Fl.rt (D.ref h.length), (⟨s.set n .no, h ++ [D.lst ds]⟩ : Z)) | _ => none) = _
  rw [h2]
theorem cs_iteT (h1 : t z = some (true, z1)) (h2 : ca z1 = r) : C.ite t ca cb z = r := by
  unfold C.ite
  rw [bnd_of h1]
  exact h2
theorem cs_iteF (h1 : t z = some (false, z1)) (h2 : cb z1 = r) : C.ite t ca cb z = r := by
  unfold C.ite
  rw [bnd_of h1]
  exact h2
theorem cs_ite (h1 : t z = some (p, z1)) (h2 : p = true → ca z1 = r) (h3 : p = false → cb z1 = r) : C.ite t ca cb z = r := by
  unfold C.ite
  rw [bnd_of h1]
  cases p with
  | true => exact h2 rfl
  | false => exact h3 rfl
theorem cs_asg {g : G} (h1 : a z = some (d, z1)) (hp : isPure d = true) (h2 : g.run d z1 = some z2) : C.asg g a z = some (.nx, z2) := by
  unfold C.asg
  rw [bnd_of h1]
  try dsimp only
  rw [if_pos hp, h2]
theorem cs_aug {n : Nat} {g : D → D → Z → Option D} (h1 : z.s[n]? = some (.val x)) (h2 : a z = some (y, ⟨s, h⟩)) (h3 : g x y ⟨s, h⟩ = some d) (hp : isPure d = true) : C.aug n g a z = some (.nx, ⟨s.set n (.val d), h⟩) := by
  unfold C.aug
  rw [h1]
  dsimp only
  rw [bnd_of h2, h3]
  exact if_pos hp
theorem cs_setIxO {n : Nat} {ds ds' : List D} (h1 : c z = some (d, z1)) (h2 : a z1 = some (.own n, z2)) (h3 : b z2 = some (.int i, ⟨s, h⟩)) (hp : isPure d = true) (h4 : s[n]? = some (.own (.lst ds))) (h5 : U.setAt ds i d = some ds') : C.setIx a b c z = some (.nx, ⟨s.set n (.own (.lst ds')), h⟩) := by
  unfold C.setIx
  rw [bnd_of h1, bnd_of h2, bnd_of h3, if_pos hp]
  show (match s[n]? with
      | some (.own (.lst ds)) => match U.setAt ds i d with
        | some ds' => some (Fl.nx, (⟨s.set n (.own (.lst ds')), h⟩ : Z))
        | none => none
      | _ => none) = _
  rw [h4]
  dsimp only
  rw [h5]
theorem cs_setIxR {n : Nat} {ds ds' : List D} (h1 : c z = some (d, z1)) (h2 : a z1 = some (.ref n, z2)) (h3 : b z2 = some (.int i, ⟨s, h⟩)) (hp : isPure d = true) (h4 : h[n]? = some (.lst ds)) (h5 : U.setAt ds i d = some ds') : C.setIx a b c z = some (.nx, ⟨s, h.set n (.lst ds')⟩) := by
  unfold C.setIx
  rw [bnd_of h1, bnd_of h2, bnd_of h3, if_pos hp]
  show (match h[n]? with
      | some (.lst ds) => match U.setAt ds i d with
        | some ds' => some (Fl.nx, (⟨s, h.set n (.lst ds')⟩ : Z))
        | none => none
      | _ => none) = _
  rw [h4]
  dsimp only
  rw [h5]
theorem cs_setN {n : Nat} {s' : List Sl} (h1 : a z = some (d, ⟨s, h⟩)) (hp : isPure d = true) (hs : s.set n (.val d) = s') : C.set n a z = some (.nx, ⟨s', h⟩) := by
  subst hs
  exact cs_set h1 hp
theorem cs_ownN {n : Nat} {m : M (List D)} {ds : List D} {s' : List Sl} (h1 : m z = some (ds, ⟨s, h⟩)) (hn : n < s.length) (hs : s.set n (.own (.lst ds)) = s') : C.own n m z = some (.nx, ⟨s', h⟩) := by
  subst hs
  exact cs_own h1 hn
theorem cs_frzN {n : Nat} {ds : List D} {s' : List Sl} (h1 : s[n]? = some (.own (.lst ds))) (hs : s.set n (.val (.lst ds)) = s') : C.frz n ⟨s, h⟩ = some (.nx, ⟨s', h⟩) := by
  subst hs
  exact cs_frz h1
theorem cs_augN {n : Nat} {g : D → D → Z → Option D} {s' : List Sl} (h1 : z.s[n]? = some (.val x)) (h2 : a z = some (y, ⟨s, h⟩)) (h3 : g x y ⟨s, h⟩ = some d) (hp : isPure d = true) (hs : s.set n (.val d) = s') : C.aug n g a z = some (.nx, ⟨s', h⟩) := by
  subst hs
  exact cs_aug h1 h2 h3 hp
theorem cs_setIxN {n : Nat} {ds ds' : List D} {s' : List Sl} (h1 : c z = some (d, z1)) (h2 : a z1 = some (.own n, z2)) (h3 : b z2 = some (.int i, ⟨s, h⟩)) (hp : isPure d = true) (h4 : s[n]? = some (.own (.lst ds))) (h5 : U.setAt ds i d = some ds') (hs : s.set n (.own (.lst ds')) = s') : C.setIx a b c z = some (.nx, ⟨s', h⟩) := by
  subst hs
  exact cs_setIxO h1 h2 h3 hp h4 h5
theorem ev_chgN {f : List D → List D → Option (D × List D)} {as : List (M D)} {xs ds ds0 ds' : List D} {n : Nat} {s' : List Sl} (h1 : a z = some (.own n, z1)) (h0 : z1.s[n]? = some (.own (.lst ds0))) (h2 : E.args as z1 = some (xs, ⟨s, h⟩)) (h3 : s[n]? = some (.own (.lst ds))) (h4 : f ds xs = some (d, ds')) (hs : s.set n (.own (.lst ds')) = s') : E.chg f a as z = some (d, ⟨s', h⟩) := by
  subst hs
  exact ev_chgO h1 h0 h2 h3 h4
theorem fn_rt {n k : Nat} {ds : List D} (hl : ds.length = k) (h1 : ca ⟨slots n ds, h⟩ = some (.rt d, z)) : fn n k ca ds h = some (d, z.h) := by
  unfold fn
  rw [if_pos hl, h1]
theorem fn_rtH {n k : Nat} {ds : List D} (hl : ds.length = k) (h1 : ca ⟨slots n ds, h⟩ = some (.rt d, ⟨s, h'⟩)) : fn n k ca ds h = some (d, h') := fn_rt hl h1
theorem fn_rtN {n k : Nat} {ds : List D} {s' : List Sl} (hl : ds.length = k) (hs : slots n ds = s') (h1 : ca ⟨s', h⟩ = some (.rt d, ⟨s, h'⟩)) : fn n k ca ds h = some (d, h') := by
  subst hs
  exact fn_rt hl h1
theorem fn_nx {n k : Nat} {ds : List D} (hl : ds.length = k) (h1 : ca ⟨slots n ds, h⟩ = some (.nx, z)) : fn n k ca ds h = some (.non, z.h) := by
  unfold fn
  rw [if_pos hl, h1]
end

theorem ev_to {α : Type} {m : M α} {z z' w : Z} {x x' : α} (h : m z = some (x', z')) (hx : x' = x) (hz : z' = w) : m z = some (x, w) := by
  rw [h, hx, hz]
/-- a body that ends with a value -/
def Ends (c : C) (z : Z) (d : D) : Prop := ∃ z', c z = some (.rt d, z')
theorem Ends.nx {a b : C} {z z1 : Z} {d : D} (h1 : a z = some (.nx, z1)) (h2 : Ends b z1 d) : Ends (C.seq a b) z d := by
  obtain ⟨z', h⟩ := h2
  exact ⟨z', cs_nx h1 h⟩
theorem Ends.one {a : C} {z z1 : Z} {d : D} (h1 : a z = some (.rt d, z1)) : Ends a z d := ⟨z1, h1⟩
theorem Ends.fn {b : C} {n k : Nat} {ds h : List D} {d : D} (hl : ds.length = k) (h1 : Ends b ⟨slots n ds, h⟩ d) : ∃ h', fn n k b ds h = some (d, h') := by
  obtain ⟨z', h⟩ := h1
  exact ⟨_, fn_rt hl h⟩
/-! ### loops -/
section
variable {it : It} {g : G} {b : C} {z z1 z2 : Z} {mi : M It}
theorem cs_for (h1 : mi z = some (it, z1)) {r : Option (Fl × Z)} (h2 : C.loop it g b it.items z1 = r) : C.for_ mi g b z = r := by
  unfold C.for_
  rw [bnd_of h1]
  exact h2
theorem whl_f {t : M Bool} (h1 : t z = some (false, z1)) : C.whl t b z = some (.nx, z1) := by
  rw [C.whl, h1]
theorem whl_t {t : M Bool} {r : Option (Fl × Z)} (h1 : t z = some (true, z1)) (h2 : b z1 = some (.nx, z2)) (h3 : C.whl t b z2 = r) : C.whl t b z = r := by
  rw [C.whl, h1]
  dsimp only
  rw [h2]
  exact h3
theorem whl_rt {t : M Bool} {d : D} (h1 : t z = some (true, z1)) (h2 : b z1 = some (.rt d, z2)) : C.whl t b z = some (.rt d, z2) := by
  rw [C.whl, h1]
  dsimp only
  rw [h2]
theorem whl_bk {t : M Bool} (h1 : t z = some (true, z1)) (h2 : b z1 = some (.bk, z2)) : C.whl t b z = some (.nx, z2) := by
  rw [C.whl, h1]
  dsimp only
  rw [h2]
theorem ok_none {xs : List D} : (⟨xs, none⟩ : It).ok z = true := rfl
theorem loop_nil (hk : it.chk = none) : C.loop it g b [] z = some (.nx, z) := by
  have : it.ok z = true := by unfold It.ok; rw [hk]
  unfold C.loop
  exact if_pos this
theorem loop_cons {d : D} {ds : List D} {f : Fl} {r : Option (Fl × Z)} (hk : it.chk = none) (h1 : g.run d z = some z1) (h2 : b z1 = some (f, z2)) (h3 : (match f with | .nx => C.loop it g b ds z2 | .ct => C.loop it g b ds z2 | .bk => some (.nx, z2) | .rt d => some (.rt d, z2)) = r) : C.loop it g b (d :: ds) z = r := by
  have : it.ok z = true := by unfold It.ok; rw [hk]
  unfold C.loop
  rw [if_pos this, h1]
  dsimp only
  rw [h2, ← h3]
  cases f <;> rfl
/-- a loop by an invariant over the items left: it goes to its end -/
theorem loop_inv {it : It} {g : G} {b : C} (hk : it.chk = none) (P : List D → Z → Prop) (Q : Z → Prop) (step : ∀ d ds z, P (d :: ds) z → ∃ z1 z2, g.run d z = some z1 ∧ (b z1 = some (.nx, z2) ∨ b z1 = some (.ct, z2)) ∧ P ds z2) (fin : ∀ z, P [] z → Q z) : ∀ (ds : List D) (z : Z), P ds z → ∃ z', C.loop it g b ds z = some (.nx, z') ∧ Q z'
  | [], z, h => ⟨z, loop_nil hk, fin z h⟩
  | d :: ds, z, h => by
    obtain ⟨z1, z2, h1, h2, h3⟩ := step d ds z h
    obtain ⟨z', h4, h5⟩ := loop_inv hk P Q step fin ds z2 h3
    refine ⟨z', ?_, h5⟩
    rcases h2 with h2 | h2
    · exact loop_cons hk h1 h2 h4
    · exact loop_cons hk h1 h2 h4
theorem ev_seq {a : M D} {x : D} {xs : List D} (h1 : a z = some (x, z1)) (h2 : itemsOf x = some xs) : I.seq a z = some (⟨xs, none⟩, z1) := by
  unfold I.seq
  rw [bnd_of h1]
  cases x <;> first | (cases h2; rfl) | cases h2
theorem ev_seqC {a : M D} {x : D} {xs : List D} (h1 : a z = some (x, z1)) (h2 : itemsOf x = some xs) : I.seqC a z = some (⟨xs, none⟩, z1) := by
  unfold I.seqC
  rw [bnd_of h1]
  cases x <;> first | (cases h2; rfl) | cases h2
theorem ev_rng1 {a : M D} {n : Int} (h1 : a z = some (.int n, z1)) (h2 : -(2 ^ 62) ≤ n ∧ n < 2 ^ 62) : I.rng1 a z = some (⟨I.irng 0 n.toNat, none⟩, z1) := by
  unfold I.rng1
  rw [bnd_of h1]
  dsimp only
  rw [if_pos h2]
  rfl
theorem ev_rng2 {a b : M D} {i j : Int} (h1 : a z = some (.int i, z1)) (h3 : b z1 = some (.int j, z2)) (h2 : (-(2 ^ 62) ≤ i ∧ i < 2 ^ 62) ∧ -(2 ^ 62) ≤ j ∧ j < 2 ^ 62) : I.rng2 a b z = some (⟨I.irng i (j - i).toNat, none⟩, z2) := by
  unfold I.rng2
  rw [bnd_of h1, bnd_of h3]
  dsimp only
  rw [if_pos h2]
  rfl
/-- a comprehension whose items and elements change nothing: item by item -/
theorem comp_loop {it : It} {g : G} {vs : List Nat} {tt : M Bool} {te : M D} (hk : it.chk = none) (fl : D → Bool) (fe : D → D) (w : Z) (step : ∀ d, d ∈ it.items → ∃ z1 z2 z3, g.run d w = some z1 ∧ tt z1 = some (fl d, z2) ∧ (fl d = true → te z2 = some (fe d, z3) ∧ isPure (fe d) = true) ∧ (fl d = true → (⟨N.wipe z3.s vs, z3.h⟩ : Z) = w) ∧ (fl d = false → (⟨N.wipe z2.s vs, z2.h⟩ : Z) = w)) :
    ∀ (ds : List D) (acc : List D), (∀ d ∈ ds, d ∈ it.items) → N.loop it g vs tt te ds acc w = some (acc ++ (ds.filter fl).map fe, w)
  | [], acc, _ => by
    have : it.ok w = true := by unfold It.ok; rw [hk]
    unfold N.loop
    rw [if_pos this]
    simp
  | d :: ds, acc, hm => by
    have ok : it.ok w = true := by unfold It.ok; rw [hk]
    obtain ⟨z1, z2, z3, h1, h2, h3, h4, h5⟩ := step d (hm d List.mem_cons_self)
    have ih := fun acc => comp_loop hk fl fe w step ds acc fun x hx => hm x (List.mem_cons_of_mem _ hx)
    unfold N.loop
    rw [if_pos ok, h1]
    dsimp only
    rw [h2]
    cases hf : fl d with
    | true =>
      obtain ⟨h6, h7⟩ := h3 hf
      dsimp only
      rw [h6]
      dsimp only
      rw [if_pos h7, h4 hf, ih]
      simp [List.filter_cons, hf]
    | false =>
      dsimp only
      rw [h5 hf, ih]
      simp [List.filter_cons, hf]
/-- .. one by one -/
theorem nl_nil {it : It} {g : G} {vs : List Nat} {tt : M Bool} {te : M D} {acc : List D} (ok : it.ok z = true) : N.loop it g vs tt te [] acc z = some (acc, z) := by
  unfold N.loop
  rw [if_pos ok]
theorem nl_t {it : It} {g : G} {vs : List Nat} {tt : M Bool} {te : M D} {acc ds : List D} {d x : D} {z1 z2 z3 : Z} {r : Option (List D × Z)} (ok : it.ok z = true) (h1 : g.run d z = some z1) (h2 : tt z1 = some (true, z2)) (h3 : te z2 = some (x, z3)) (hp : isPure x = true) (h4 : N.loop it g vs tt te ds (acc ++ [x]) ⟨N.wipe z3.s vs, z3.h⟩ = r) : N.loop it g vs tt te (d :: ds) acc z = r := by
  unfold N.loop
  rw [if_pos ok, h1]
  dsimp only
  rw [h2]
  dsimp only
  rw [h3]
  dsimp only
  rw [if_pos hp]
  exact h4
theorem nl_tN {it : It} {g : G} {vs : List Nat} {tt : M Bool} {te : M D} {acc acc' ds : List D} {d x : D} {z1 z2 : Z} {s3 s4 : List Sl} {h3 : List D} {r : Option (List D × Z)} (ok : it.ok z = true) (h1 : g.run d z = some z1) (h2 : tt z1 = some (true, z2)) (h3' : te z2 = some (x, ⟨s3, h3⟩)) (hp : isPure x = true) (hw : N.wipe s3 vs = s4) (ha : acc ++ [x] = acc') (h4 : N.loop it g vs tt te ds acc' ⟨s4, h3⟩ = r) : N.loop it g vs tt te (d :: ds) acc z = r := by
  subst hw
  subst ha
  exact nl_t ok h1 h2 h3' hp h4
theorem ev_compN {mi : M It} {it : It} {g : G} {vs : List Nat} {tt : M Bool} {te : M D} {r : List D} {s1 s2 s3 s4 : List Sl} {h1' h2' : List D} (h1 : mi z = some (it, ⟨s1, h1'⟩)) (h2 : it.items.length ≤ szl) (h3 : (vs.all fun v => !N.isOwn s1[v]?) = true) (hw : N.wipe s1 vs = s3) (h4 : N.loop it g vs tt te it.items [] ⟨s3, h1'⟩ = some (r, ⟨s2, h2'⟩)) (hr : N.rest s1 s2 vs = s4) : N.comp mi g vs tt te z = some (r, ⟨s4, h2'⟩) := by
  subst hw hr
  unfold N.comp
  rw [bnd_of h1]
  dsimp only
  rw [if_pos ⟨h2, h3⟩, h4]
theorem nl_f {it : It} {g : G} {vs : List Nat} {tt : M Bool} {te : M D} {acc ds : List D} {d : D} {z1 z2 : Z} {r : Option (List D × Z)} (ok : it.ok z = true) (h1 : g.run d z = some z1) (h2 : tt z1 = some (false, z2)) (h4 : N.loop it g vs tt te ds acc ⟨N.wipe z2.s vs, z2.h⟩ = r) : N.loop it g vs tt te (d :: ds) acc z = r := by
  unfold N.loop
  rw [if_pos ok, h1]
  dsimp only
  rw [h2]
  exact h4
theorem ok_own {xs : List D} {d : D} {t : Bool} (h : cont d z = some (t, xs)) : (⟨xs, some d⟩ : It).ok z = true := by
  unfold It.ok
  dsimp only
  rw [if_pos ⟨t, h⟩]
theorem ev_seqCO {a : M D} {n : Nat} {t : Bool} {xs : List D} (h1 : a z = some (.own n, z1)) (h2 : cont (.own n) z1 = some (t, xs)) : I.seqC a z = some (⟨xs, some (.own n)⟩, z1) := by
  unfold I.seqC
  rw [bnd_of h1]
  show (match cont (.own n) z1 with | some (_, xs) => some ((⟨xs, some (.own n)⟩ : It), z1) | none => none) = _
  rw [h2]
theorem ev_true {α : Type} {x : α} : Mi.ret x z = some (x, z) := rfl
/-- .. by an invariant over the items left and what is made -/
theorem comp_inv {it : It} {g : G} {vs : List Nat} {tt : M Bool} {te : M D} (hk : it.chk = none) (P : List D → List D → Z → Prop)
    (step : ∀ d ds acc z, P (d :: ds) acc z → ∃ z1 z2, g.run d z = some z1 ∧ ((tt z1 = some (false, z2) ∧ P ds acc ⟨N.wipe z2.s vs, z2.h⟩) ∨ ∃ x z3, tt z1 = some (true, z2) ∧ te z2 = some (x, z3) ∧ isPure x = true ∧ P ds (acc ++ [x]) ⟨N.wipe z3.s vs, z3.h⟩)) :
    ∀ (ds acc : List D) (z : Z), P ds acc z → ∃ r z', N.loop it g vs tt te ds acc z = some (r, z') ∧ P [] r z'
  | [], acc, z, h => by
    have : it.ok z = true := by unfold It.ok; rw [hk]
    refine ⟨acc, z, ?_, h⟩
    unfold N.loop
    rw [if_pos this]
  | d :: ds, acc, z, h => by
    have ok : it.ok z = true := by unfold It.ok; rw [hk]
    obtain ⟨z1, z2, h1, h2⟩ := step d ds acc z h
    rcases h2 with ⟨h2, h3⟩ | ⟨x, z3, h2, h3, h4, h5⟩
    · obtain ⟨r, z', h6, h7⟩ := comp_inv hk P step ds acc _ h3
      refine ⟨r, z', ?_, h7⟩
      unfold N.loop
      rw [if_pos ok, h1]
      dsimp only
      rw [h2]
      exact h6
    · obtain ⟨r, z', h6, h7⟩ := comp_inv hk P step ds _ _ h5
      refine ⟨r, z', ?_, h7⟩
      unfold N.loop
      rw [if_pos ok, h1]
      dsimp only
      rw [h2]
      dsimp only
      rw [h3]
      dsimp only
      rw [if_pos h4]
      exact h6
/-- .. in all, where the names of the block are set anew each time -/
theorem ev_comp {mi : M It} {it : It} {g : G} {vs : List Nat} {tt : M Bool} {te : M D} {r : List D} {z1 z2 : Z} (h1 : mi z = some (it, z1)) (h2 : it.items.length ≤ szl) (h3 : (vs.all fun v => !N.isOwn z1.s[v]?) = true) (h4 : N.loop it g vs tt te it.items [] ⟨N.wipe z1.s vs, z1.h⟩ = some (r, z2)) : N.comp mi g vs tt te z = some (r, ⟨N.rest z1.s z2.s vs, z2.h⟩) := by
  unfold N.comp
  rw [bnd_of h1]
  try dsimp only
  rw [if_pos ⟨h2, h3⟩, h4]
end
end Mi

set_option Elab.async false
set_option linter.all false
set_option maxRecDepth 100000
/-! Mi, part W: leaves; the laws' drawing. -/
namespace Mi
open PySem PySem.Spec PyProof.Rows L2
section
variable {x d : D} {z z' : Z} {i j : Int}
theorem lf_cont {r : Option (Bool × List D)} (h : cont x z = r) : cont x z = r := h
theorem lf_atI {ds : List D} {r : Option D} (h : atI ds i = r) : atI ds i = r := h
theorem lf_get {α : Type} {xs : List α} {n : Nat} {r : Option α} (h : xs[n]? = r) : xs[n]? = r := h
theorem lf_pure {r : Bool} (h : isPure d = r) : isPure d = r := h
theorem lf_setAt {ds : List D} {r : Option (List D)} (h : U.setAt ds i d = r) : U.setAt ds i d = r := h
theorem lf_tru {r : Option Bool} (h : O.tru d z = r) : O.tru d z = r := h
theorem lf_lt {n m : Nat} (h : n < m) : n < m := h
theorem lf_pos {i : Int} (h : 0 < i) : 0 < i := h
theorem lf_le {n m : Nat} (h : n ≤ m) : n ≤ m := h
theorem lf_isNm {b : Bool} (h : isNon x = b) : isNon x = b := h
theorem lf_notNm {b : Bool} (h : (!isNon x) = b) : (!isNon x) = b := h
theorem lf_noScr {b : Bool} (h : noScr x = b) : noScr x = b := h
theorem atI_zero {xs : List D} : atI (x :: xs) 0 = some x := atI_nat (j := 0) rfl
theorem lf_abs : F.abs [.int i] z = some (.int (if i < 0 then -i else i)) := rfl
theorem lf_int1 : F.int1 [.int i] z = some (.int i) := rfl
theorem lf_max2 : F.max2 [.int i, .int j] z = some (.int (if j > i then j else i)) := rfl
theorem lf_min2 : F.min2 [.int i, .int j] z = some (.int (if j < i then j else i)) := rfl
theorem lf_len {t : Bool} {ds : List D} (h : cont x z = some (t, ds)) : F.len [x] z = some (.int ds.length) := by
  show (match cont x z with | some (_, ds) => some (D.int ds.length) | none => none) = _
  rw [h]
def noKt : D → Bool
  | .kt _ => false
  | _ => true
theorem lf_noKt {b : Bool} (h : noKt x = b) : noKt x = b := h
theorem lf_tuple {t : Bool} {ds : List D} (h : cont x z = some (t, ds)) (hk : noKt x = true) : F.tuple [x] z = some (.tup ds) := by
  have e : F.tuple [x] z = (match cont x z with | some (_, ds) => some (D.tup ds) | none => none) := by
    cases x <;> first | rfl | cases hk
  rw [e, h]
theorem lf_isi {T t : String} {b : Bool} (h : F.tyName x z = some t) (h2 : kitB t T = some b) : F.isi T x z = some (.bl b) := by
  unfold F.isi
  rw [h]
  dsimp only
  rw [h2]
  rfl
theorem lf_isiK {t T : String} {r : Option Bool} (h : kitB t T = r) : kitB t T = r := h
theorem lf_ty {r : Option String} (h : F.tyName x z = r) : F.tyName x z = r := h
theorem lf_set {s s' : List Sl} {n : Nat} {x : Sl} (h : s.set n x = s') : s.set n x = s' := h
theorem lf_slots {n : Nat} {ds : List D} {s' : List Sl} (h : slots n ds = s') : slots n ds = s' := h
theorem lf_wipe {s s' : List Sl} {vs : List Nat} (h : N.wipe s vs = s') : N.wipe s vs = s' := h
theorem lf_rest {s0 s s' : List Sl} {vs : List Nat} (h : N.rest s0 s vs = s') : N.rest s0 s vs = s' := h
theorem lf_run {g : G} {r : Option Z} (h : g.run d z = r) : g.run d z = r := h
theorem lf_len0 {ds : List D} {n : Nat} (h : ds.length = n) : ds.length = n := h
theorem lf_nl {it : It} {g : G} {vs : List Nat} {tt : M Bool} {te : M D} {ds acc : List D} {z : Z} {r : Option (List D × Z)} (h : N.loop it g vs tt te ds acc z = r) : N.loop it g vs tt te ds acc z = r := h
theorem lf_smn {n : Nat} {i : Int} (h : Smn n i) : Smn n i := h
theorem lf_ok {it : It} {r : Bool} (h : it.ok z = r) : it.ok z = r := h
theorem lf_itm {r : Option (List D)} (h : itemsOf d = r) : itemsOf d = r := h
theorem lf_bd {n : Int} (h : -(2 ^ 62) ≤ n ∧ n < 2 ^ 62) : -(2 ^ 62) ≤ n ∧ n < 2 ^ 62 := h
theorem lf_allO {vs : List Nat} {s : List Sl} {r : Bool} (h : (vs.all fun v => !N.isOwn s[v]?) = r) : (vs.all fun v => !N.isOwn s[v]?) = r := h
theorem lf_nm {n : Nat} {r : Option Z} (h : (G.nm n).run d z = r) : (G.nm n).run d z = r := h
theorem gr_nm {n : Nat} {s s' : List Sl} {h : List D} (e : s.set n (.val d) = s') : (G.nm n).run d ⟨s, h⟩ = some ⟨s', h⟩ := by subst e; rfl
theorem gr_nil {z : Z} : G.runs [] [] z = some z := rfl
theorem gr_cons {g : G} {gs : List G} {ds : List D} {z z1 : Z} {r : Option Z} (e : g.run d z = some z1) (e2 : G.runs gs ds z1 = r) : G.runs (g :: gs) (d :: ds) z = r := by
  show (match g.run d z with | none => none | some z1 => G.runs gs ds z1) = r
  rw [e]; exact e2
theorem gr_tp {gs : List G} {ds : List D} {z : Z} {r : Option Z} (e : G.runs gs ds z = r) : (G.tp gs).run (.tup ds) z = r := e
theorem gr_tl {gs : List G} {ds : List D} {z : Z} {r : Option Z} (e : G.runs gs ds z = r) : (G.tl gs).run (.lst ds) z = r := e
theorem sl_z {a y : Sl} {s : List Sl} : (a :: s).set 0 y = y :: s := rfl
theorem sl_s {a y : Sl} {s s' : List Sl} {n : Nat} (e : s.set n y = s') : (a :: s).set (n + 1) y = a :: s' := by subst e; rfl
theorem sw_nil {s : List Sl} : N.wipe s [] = s := rfl
theorem sw_cons {s s1 s2 : List Sl} {v : Nat} {vs : List Nat} (e : N.wipe s vs = s1) (e2 : s1.set v .no = s2) : N.wipe s (v :: vs) = s2 := by subst e; exact e2
theorem sr_nil {s0 s : List Sl} : N.rest s0 s [] = s := rfl
theorem sr_cons {s0 s s1 s2 : List Sl} {x : Sl} {v : Nat} {vs : List Nat} (e0 : s0[v]? = some x) (e : N.rest s0 s vs = s1) (e2 : s1.set v x = s2) : N.rest s0 s (v :: vs) = s2 := by
  subst e
  show (match s0[v]? with | some x => (N.rest s0 s vs).set v x | none => N.rest s0 s vs) = s2
  rw [e0]; exact e2
theorem ss_nil {n : Nat} {s' : List Sl} (e : List.replicate n Sl.no = s') : slots n [] = s' := by rw [← e]; rfl
theorem ss_cons {n : Nat} {d : D} {ds : List D} {s' : List Sl} (e : slots n ds = s') : slots (n + 1) (d :: ds) = .val d :: s' := by
  rw [← e]; unfold slots; simp
theorem se_nil : List.replicate 0 Sl.no = [] := rfl
theorem se_cons {n : Nat} {s' : List Sl} (e : List.replicate n Sl.no = s') : List.replicate (n + 1) Sl.no = .no :: s' := by rw [← e]; rfl
theorem la_nil {x : D} : ([] : List D) ++ [x] = [x] := rfl
theorem la_cons {x a : D} {l l' : List D} (e : l ++ [x] = l') : (a :: l) ++ [x] = a :: l' := by subst e; rfl
theorem lf_app {x : D} {l l' : List D} (h : l ++ [x] = l') : l ++ [x] = l' := h
theorem kb_tt : kitB "tuple" "tuple" = some true := by with_unfolding_all decide
theorem kb_bb : kitB "bool" "bool" = some true := by with_unfolding_all decide
theorem kb_ii : kitB "int" "int" = some true := by with_unfolding_all decide
theorem kb_it : kitB "int" "tuple" = some false := by with_unfolding_all decide
theorem kb_ib : kitB "int" "bool" = some false := by with_unfolding_all decide
theorem kb_bi : kitB "bool" "int" = some true := by with_unfolding_all decide
theorem kb_ll : kitB "list" "list" = some true := by with_unfolding_all decide
theorem kb_ss : kitB "str" "str" = some true := by with_unfolding_all decide
theorem eqP_t3 {a0 a1 a2 b0 b1 b2 : Int} {z : Z} : O.eqP (.tup [.int a0, .int a1, .int a2]) (.tup [.int b0, .int b1, .int b2]) z = some (decide (a0 = b0) && (decide (a1 = b1) && decide (a2 = b2))) := by
  show some ((a0 == b0) && ((a1 == b1) && ((a2 == b2) && true))) = some _
  simp only [Bool.beq_eq_decide_eq, Bool.and_true]
theorem eqP_t2 {a0 a1 b0 b1 : Int} {z : Z} : O.eqP (.tup [.int a0, .int a1]) (.tup [.int b0, .int b1]) z = some (decide (a0 = b0) && decide (a1 = b1)) := by
  show some ((a0 == b0) && ((a1 == b1) && true)) = some _
  simp only [Bool.beq_eq_decide_eq, Bool.and_true]
theorem so_to {α β : Type} {o : Option (α × β)} {x x' : α} {y y' : β} (h : o = some (x', y')) (hx : x' = x) (hy : y' = y) : o = some (x, y) := by subst hx hy; exact h
theorem eqP_bl {a b : Bool} {z : Z} : O.eqP (.bl a) (.bl b) z = some (decide (a = b)) := by cases a <;> cases b <;> rfl
theorem lf_tp {gs : List G} {r : Option Z} (h : (G.tp gs).run d z = r) : (G.tp gs).run d z = r := h
end
local macro_rules | `(tactic| wtm_at "leaf") => `(tactic| first
  | ((with_reducible apply lf_cont); rfl)
  | (with_reducible exact atI_zero)
  | ((with_reducible apply lf_dcont); rfl)
  | ((with_reducible apply lf_dcS); rfl)
  | ((with_reducible apply lf_dgetC); rfl)
  | ((with_reducible apply lf_keyD); rfl)
  | ((with_reducible apply lf_isDict); rfl)
  | ((with_reducible apply lf_dkeys); rfl)
  | ((with_reducible apply lf_atI); first | rfl | exact atI_zero)
  | ((with_reducible apply lf_get); rfl)
  | ((with_reducible apply lf_pure); rfl)
  | ((with_reducible apply lf_setAt); rfl)
  | ((with_reducible apply lf_tru); rfl)
  | ((with_reducible apply lf_lt); exact Nat.le_of_ble_eq_true rfl)
  | ((with_reducible apply lf_pos); first | assumption | decide | omega)
  | ((with_reducible apply lf_le); decide)
  | ((with_reducible apply lf_isNm); rfl)
  | ((with_reducible apply lf_notNm); rfl)
  | ((with_reducible apply lf_noScr); rfl)
  | ((with_reducible apply lf_noKt); rfl)
  | (with_reducible exact eqP_int)
  | (with_reducible exact lf_abs)
  | (with_reducible exact lf_int1)
  | (with_reducible exact lf_max2)
  | (with_reducible exact lf_min2)
  | (with_reducible apply lf_len)
  | (with_reducible apply lf_tuple)
  | (with_reducible apply lf_isi)
  | (with_reducible exact eqP_t3)
  | (with_reducible exact eqP_bl)
  | (with_reducible exact eqP_t2)
  | (with_reducible exact kb_tt)
  | (with_reducible exact kb_bb)
  | (with_reducible exact kb_ii)
  | (with_reducible exact kb_it)
  | (with_reducible exact kb_ib)
  | (with_reducible exact kb_bi)
  | (with_reducible exact kb_ll)
  | (with_reducible exact kb_ss)
  | ((with_reducible apply lf_isiK); with_unfolding_all decide)
  | ((with_reducible apply lf_ty); rfl)
  | ((with_reducible apply lf_bd); exact ⟨by decide, by decide⟩)
  | ((with_reducible apply lf_allO); rfl)
  | ((with_reducible apply lf_app); first | ((repeat (first | (with_reducible exact la_nil) | (with_reducible apply la_cons))); done) | rfl)
  | ((with_reducible apply lf_set); first | ((repeat (first | (with_reducible exact sl_z) | (with_reducible apply sl_s))); done) | rfl)
  | ((with_reducible apply lf_slots); first | ((repeat (first | (with_reducible exact se_nil) | (with_reducible apply se_cons) | (with_reducible apply ss_cons) | (with_reducible apply ss_nil))); done) | rfl)
  | (with_reducible exact sw_nil)
  | (with_reducible apply sw_cons)
  | ((with_reducible apply lf_wipe); rfl)
  | (with_reducible exact sr_nil)
  | (with_reducible apply sr_cons)
  | ((with_reducible apply lf_rest); rfl)
  | (with_reducible apply gr_nm)
  | (with_reducible exact gr_nil)
  | (with_reducible apply gr_cons)
  | (with_reducible apply gr_tp)
  | (with_reducible apply gr_tl)
  | ((with_reducible apply lf_run); first | (simp only [G.nm, G.tp, G.tl, G.runs, List.set_cons_succ, List.set_cons_zero]; done) | rfl)
  | ((with_reducible apply lf_len0); rfl)
  )
local macro_rules | `(tactic| wtm_at "sm") => `(tactic| first
  | ((with_reducible apply lf_smn); with_reducible assumption)
  | (with_reducible exact Smn.nat (by decide))
  | (with_reducible apply Smn.mul)
  | (with_reducible apply Smn.add)
  | (with_reducible apply Smn.sub)
  | (with_reducible apply Smn.neg)
  | (with_reducible apply Smn.ite)
  | (with_reducible apply Smn.div _ (by omega))
  | (with_reducible apply Smn.mod _ (by omega))
  | ((with_reducible refine Smn.of ?_); omega))
local macro_rules | `(tactic| wtm_at "nl") => `(tactic| first
  | (with_reducible apply ev_rng1)
  | (with_reducible apply ev_rng2)
  | (with_reducible apply nl_nil)
  | ((with_reducible apply lf_nl); first | apply nl_tN | apply nl_nil)
  | ((with_reducible apply lf_ok); rfl)
  | ((with_reducible apply lf_itm); rfl))
local macro_rules | `(tactic| wtm_at "e1") => `(tactic| first
  | (with_reducible intro _)
  | (with_reducible exact ev_c)
  | (with_reducible exact ev_args0)
  | (with_reducible exact ev_part0)
  | ((with_reducible apply ev_var); rfl)
  | ((with_reducible apply ev_varO); rfl)
  | (with_reducible apply ev_ix)
  | (with_reducible apply ev_dix)
  | (with_reducible apply ev_din)
  | (with_reducible apply ev_dnotIn)
  | (with_reducible apply ev_get1)
  | (with_reducible apply ev_get2)
  | (with_reducible apply ev_shrN)
  | (with_reducible apply ev_frzD)
  | (with_reducible exact ev_pairs0)
  | (with_reducible apply ev_pairs)
  | (with_reducible apply ev_dispK)
  | (with_reducible apply ev_sortedD)
  | (with_reducible apply ev_rev)
  | (with_reducible apply ev_cutT)
  | (with_reducible apply ev_catT)
  | (with_reducible apply ev_seqK)
  | (with_reducible apply ev_add)
  | (with_reducible apply ev_sub)
  | (with_reducible apply ev_mul)
  | (with_reducible apply ev_div)
  | (with_reducible apply ev_mod)
  | (with_reducible apply ev_neg)
  | (with_reducible apply ev_lt)
  | (with_reducible apply ev_le)
  | (with_reducible apply ev_gt)
  | (with_reducible apply ev_ge)
  | (with_reducible apply ev_eq)
  | (with_reducible apply ev_ne)
  | (with_reducible apply ev_isN)
  | (with_reducible apply ev_notN)
  | (with_reducible apply ev_args)
  | (with_reducible apply ev_tup)
  | (with_reducible apply ev_frz)
  | (with_reducible apply ev_shr)
  | (with_reducible apply ev_disp)
  | (with_reducible apply ev_blt1)
  | (with_reducible apply ev_blt2)
  | (with_reducible apply ev_un)
  | (with_reducible apply ev_and)
  | (with_reducible apply ev_or)
  | (with_reducible apply ev_not)
  | (with_reducible apply tv)
  | (with_reducible apply tt_tru)
  | (with_reducible apply tt_and)
  | (with_reducible apply tt_or)
  | (with_reducible apply tt_not)
  | (with_reducible apply ev_ofSeq)
  | (with_reducible apply ev_part)
  | (with_reducible apply ev_slice)
  | (with_reducible apply ev_compN)
  | (with_reducible exact ev_true)
  | wtm_at "nl"
  | (with_reducible apply ev_chain)
  | (with_reducible apply ev_call)
  | wtm_at "call"
  | wtm_at "leaf"
  | wtm_at "sm")
local macro_rules | `(tactic| wtm_at "ev") => `(tactic| repeat' wtm_at "e1")
local macro_rules | `(tactic| wtm_at "dec") => `(tactic| decide)
local macro_rules | `(tactic| wtm_at "s1") => `(tactic| first
  | (with_reducible exact cs_skip)
  | (with_reducible apply cs_setN)
  | (with_reducible apply cs_dputO)
  | (with_reducible apply cs_ownD)
  | (with_reducible apply cs_frzD)
  | (with_reducible apply cs_retD)
  | (with_reducible apply cs_ownN)
  | (with_reducible apply cs_frzN)
  | (with_reducible apply cs_augN)
  | (with_reducible apply ev_chgN)
  | (with_reducible apply cs_setIxN)
  | (with_reducible apply cs_drop)
  | (with_reducible apply cs_asg)
  | (with_reducible apply cs_ret)
  | wtm_at "e1")
local macro_rules | `(tactic| wtm_at "st") => `(tactic| repeat' wtm_at "s1")
local macro_rules | `(tactic| wtm_at "dz") => `(tactic| (with_reducible apply Dz.nx; · wtm_at "st"))
local macro_rules | `(tactic| wtm_at "di") => `(tactic| (with_reducible apply Dz.ite; · wtm_at "ev"))

/-! ### the state of the draws: what is left of the script, a seed -/
structure DS where
  cells : List Int
  seed : Int
  ok : 0 ≤ seed ∧ seed ≤ 2147483647
def stH (s : DS) : List D := [.lst (s.cells.map D.int), .lst [.ref 0, .int s.seed]]
/-- .. more behind it -/
def stT (s : DS) (tl : List D) : List D := .lst (s.cells.map D.int) :: .lst [.ref 0, .int s.seed] :: tl
def dropZ : List Int → List Int
  | [] => []
  | c :: cs => if c = 0 then dropZ cs else c :: cs
def mixed (s : DS) : Int := (s.seed * 48271 + 12345) % 2147483647
theorem mixed_ok (s : DS) : 0 ≤ mixed s ∧ mixed s ≤ 2147483647 := by
  unfold mixed
  omega
def drawV (s : DS) (many : Int) : Int := match dropZ s.cells with
  | c :: _ => c % many
  | [] => (mixed s / 64) % many
def drawS (s : DS) (many : Int) : DS := match dropZ s.cells with
  | c :: cs => ⟨c / many :: cs, s.seed, s.ok⟩
  | [] => ⟨[], mixed s, mixed_ok s⟩
theorem drawV_nn (s : DS) {many : Int} (h : 0 < many) : 0 ≤ drawV s many := by
  unfold drawV
  split <;> exact Int.emod_nonneg _ (by omega)
theorem drawV_lt (s : DS) {many : Int} (h : 0 < many) : drawV s many < many := by
  unfold drawV
  split <;> exact Int.emod_lt_of_pos _ h
namespace Dr
noncomputable section
def lp_law_draw1 : C := (C.drop (E.chg U.popAt (E.var 2) [(E.c (.int 0))]))
@[reducible] def st_law_draw_1 : C := (C.set 2 (E.op O.ix (E.var 0) (E.c (.int 0))))
@[reducible] def st_law_draw_2 : C := (C.whl (T.and (T.val (E.op O.gt (E.blt F.len [(E.var 2)]) (E.c (.int 0)))) (T.val (E.op O.eq (E.op O.ix (E.var 2) (E.c (.int 0))) (E.c (.int 0))))) lp_law_draw1)
@[reducible] def st_law_draw_3 : C := (C.ite (T.val (E.op O.gt (E.blt F.len [(E.var 2)]) (E.c (.int 0)))) (C.seq (C.set 3 (E.op O.ix (E.var 2) (E.c (.int 0)))) (C.seq (C.setIx (E.var 2) (E.c (.int 0)) (E.op O.div (E.var 3) (E.var 1))) (C.ret (E.op O.mod (E.blt F.int1 [(E.var 3)]) (E.var 1))))) C.skip)
@[reducible] def st_law_draw_4 : C := (C.set 4 (E.op O.mod (E.blt F.int1 [(E.op O.add (E.op O.mul (E.op O.ix (E.var 0) (E.c (.int 1))) (E.c (.int 48271))) (E.c (.int 12345)))]) (E.c (.int 2147483647))))
@[reducible] def st_law_draw_5 : C := (C.setIx (E.var 0) (E.c (.int 1)) (E.var 4))
@[reducible] def st_law_draw_6 : C := (C.ret (E.op O.mod (E.blt F.int1 [(E.op O.div (E.var 4) (E.c (.int 64)))]) (E.var 1)))
def b_law_draw : C := (C.seq st_law_draw_1 (C.seq st_law_draw_2 (C.seq st_law_draw_3 (C.seq st_law_draw_4 (C.seq st_law_draw_5 st_law_draw_6)))))
def m_law_draw : Fn := fn 5 2 b_law_draw
end
theorem lf_lenP {xs : List D} (z : Z) (x : D) (h : cont x z = some (false, xs)) : (T.val (E.op O.gt (E.blt F.len [E.c x]) (E.c (.int 0)))) z = some (decide (0 < xs.length), z) := by
  have e := tv (ev_gt (ev_blt1 (z := z) (ev_c (d := x)) (lf_len h)) (ev_c (d := .int 0)))
  rw [e]
  congr 2
  exact decide_eq_decide.mpr (by omega)
theorem whl_test {tl : List D} (cs : List Int) (sl : List Sl) (X : D) (h2 : sl[2]? = some (.val (.ref 0))) (b : Bool) (hb : b = match cs with | [] => false | c :: _ => decide (c = 0)) : (T.and (T.val (E.op O.gt (E.blt F.len [(E.var 2)]) (E.c (.int 0)))) (T.val (E.op O.eq (E.op O.ix (E.var 2) (E.c (.int 0))) (E.c (.int 0))))) ⟨sl, (.lst (cs.map D.int) :: X :: tl)⟩ = some (b, ⟨sl, (.lst (cs.map D.int) :: X :: tl)⟩) := by
  have e1 : (T.val (E.op O.gt (E.blt F.len [(E.var 2)]) (E.c (.int 0)))) ⟨sl, (.lst (cs.map D.int) :: X :: tl)⟩ = some (decide ((0 : Int) < ((cs.map D.int).length : Nat)), ⟨sl, (.lst (cs.map D.int) :: X :: tl)⟩) :=
    tv (ev_gt (ev_blt1 (ev_var h2) (lf_len rfl)) ev_c)
  subst hb
  cases cs with
  | nil => exact tt_and (q := false) e1 fun h => nomatch h
  | cons c cs =>
    have e2 : (T.val (E.op O.eq (E.op O.ix (E.var 2) (E.c (.int 0))) (E.c (.int 0)))) ⟨sl, (.lst ((c :: cs).map D.int) :: X :: tl)⟩ = some (decide (c = 0), ⟨sl, (.lst ((c :: cs).map D.int) :: X :: tl)⟩) :=
      tv (ev_eq (ev_ix (ev_var h2) ev_c rfl atI_zero) ev_c eqP_int)
    have e3 := tt_and e1 fun _ => e2
    have e4 : decide ((0 : Int) < (((c :: cs).map D.int).length : Nat)) = true := decide_eq_true (by simp)
    rw [e4, Bool.true_and] at e3
    exact e3
theorem while_ev {tl : List D} (cs : List Int) (sl : List Sl) (X : D) (h2 : sl[2]? = some (.val (.ref 0))) : st_law_draw_2 ⟨sl, (.lst (cs.map D.int) :: X :: tl)⟩ = some (.nx, ⟨sl, (.lst ((dropZ cs).map D.int) :: X :: tl)⟩) := by
  induction cs with
  | nil => exact whl_f (whl_test _ _ _ h2 _ rfl)
  | cons c cs ih =>
    by_cases hc : c = 0
    · subst hc
      have e3 : lp_law_draw1 ⟨sl, (.lst ((0 :: cs).map D.int) :: X :: tl)⟩ = some (.nx, ⟨sl, (.lst (cs.map D.int) :: X :: tl)⟩) := by
        unfold lp_law_draw1
        exact cs_drop (ev_chgR (ev_var h2) rfl (ev_args ev_c ev_args0 rfl) rfl popAt0)
      exact whl_t (whl_test _ _ _ h2 true (decide_eq_true rfl).symm) e3 ih
    · have e : dropZ (c :: cs) = c :: cs := if_neg hc
      rw [e]
      exact whl_f (whl_test _ _ _ h2 false (decide_eq_false hc).symm)
theorem draw_evT (tl : List D) (s : DS) {many : Int} {m : Nat} (h : 0 < many) (hm : Smn m many) (hb : m ≤ bigN) : m_law_draw [.ref 1, .int many] (stT s tl) = some (.int (drawV s many), stT (drawS s many) tl) := by
  unfold m_law_draw stT
  have hs := s.ok
  have hseed : Smn 64 s.seed := Smn.of (by omega)
  unfold drawV drawS
  have e0 : b_law_draw ⟨slots 5 [.ref 1, .int many], (.lst (s.cells.map D.int) :: .lst [.ref 0, .int s.seed] :: tl)⟩ = (C.seq st_law_draw_3 (C.seq st_law_draw_4 (C.seq st_law_draw_5 st_law_draw_6))) ⟨[.val (.ref 1), .val (.int many), .val (.ref 0), .no, .no], (.lst ((dropZ s.cells).map D.int) :: .lst [.ref 0, .int s.seed] :: tl)⟩ := by
    unfold b_law_draw
    refine cs_nx (z1 := ⟨[.val (.ref 1), .val (.int many), .val (.ref 0), .no, .no], (.lst (s.cells.map D.int) :: .lst [.ref 0, .int s.seed] :: tl)⟩) ?_ (cs_nx (while_ev s.cells _ _ rfl) rfl)
    exact cs_set (ev_ix (ev_var rfl) ev_c rfl rfl) rfl
  cases hd : dropZ s.cells with
  | cons c cs =>
    apply fn_rtH rfl
    rw [e0, hd]
    have e1 : (T.val (E.op O.gt (E.blt F.len [(E.var 2)]) (E.c (.int 0)))) ⟨[.val (.ref 1), .val (.int many), .val (.ref 0), .no, .no], (.lst ((c :: cs).map D.int) :: .lst [.ref 0, .int s.seed] :: tl)⟩ = some (true, ⟨[.val (.ref 1), .val (.int many), .val (.ref 0), .no, .no], (.lst ((c :: cs).map D.int) :: .lst [.ref 0, .int s.seed] :: tl)⟩) := by
      have e4 : decide ((0 : Int) < (((c :: cs).map D.int).length : Nat)) = true := decide_eq_true (by simp)
      rw [← e4]
      exact tv (ev_gt (ev_blt1 (ev_var rfl) (lf_len rfl)) ev_c)
    refine cs_rt (cs_iteT e1 ?_)
    refine cs_nx (cs_set (ev_ix (ev_var rfl) ev_c rfl atI_zero) rfl) ?_
    refine cs_nx (cs_setIxR (ev_div (ev_var rfl) (ev_var rfl) h hm hb) (ev_var rfl) ev_c rfl rfl (ds' := (c / many :: cs).map D.int) setAt0) ?_
    exact cs_ret (ev_mod (ev_blt1 (ev_var rfl) lf_int1) (ev_var rfl) h) rfl
  | nil =>
    apply fn_rtH rfl
    rw [e0, hd]
    refine cs_nx (cs_iteF (tv (p := false) (by exact ev_gt (ev_blt1 (ev_var rfl) (lf_len (ds := []) rfl)) ev_c)) cs_skip) ?_
    refine cs_nx (cs_set (ev_mod (ev_blt1 (ev_add (ev_mul (ev_ix (ev_var rfl) ev_c rfl rfl) ev_c hseed (Smn.nat (by decide)) (by decide) (by decide)) ev_c) lf_int1) ev_c (by decide)) rfl) ?_
    refine cs_nx (cs_setIxR (ev_var rfl) (ev_var rfl) ev_c rfl rfl rfl) ?_
    exact cs_ret (ev_mod (ev_blt1 (ev_div (ev_var rfl) ev_c (by decide) (Smn.nat (by decide)) (by decide)) lf_int1) (ev_var rfl) h) rfl
theorem draw_ev (s : DS) {many : Int} {m : Nat} (h : 0 < many) (hm : Smn m many) (hb : m ≤ bigN) : m_law_draw [.ref 1, .int many] (stH s) = some (.int (drawV s many), stH (drawS s many)) := draw_evT [] s h hm hb
noncomputable section
def lp_law_state1 : C := (C.set 1 (E.op O.mod (E.blt F.int1 [(E.op O.add (E.op O.mul (E.var 1) (E.c (.int 31))) (E.var 2))]) (E.c (.int 1000003))))
@[reducible] def st_law_state_2 : C := (C.for_ (I.seq (E.var 0)) (G.nm 2) lp_law_state1)
@[reducible] def st_law_state_3 : C := (C.ret (E.shr (N.disp [(E.shr (N.comp (I.seqC (E.var 0)) (G.nm 2) [2] (ret true) (E.blt F.abs [(E.var 2)]))), (E.op O.add (E.var 1) (E.c (.int 1)))])))
def b_law_state : C := (C.seq (C.set 1 (E.c (.int 7))) (C.seq st_law_state_2 st_law_state_3))
def m_law_state : Fn := fn 3 1 b_law_state
end
theorem loop_ev (it : It) (hk : it.chk = none) : ∀ (cs : List Int) (A : Sl) (a : Int) (X : Sl), 0 ≤ a → a ≤ 1000003 → N.isOwn (some X) = false → ∃ (a' : Int) (X' : Sl), 0 ≤ a' ∧ a' ≤ 1000003 ∧ N.isOwn (some X') = false ∧ C.loop it (G.nm 2) lp_law_state1 (cs.map D.int) ⟨[A, .val (.int a), X], []⟩ = some (.nx, ⟨[A, .val (.int a'), X'], []⟩)
  | [], A, a, X, h0, h1, hX => ⟨a, X, h0, h1, hX, loop_nil hk⟩
  | c :: cs, A, a, X, h0, h1, hX => by
    obtain ⟨a', X', h2, h3, h5, h4⟩ := loop_ev it hk cs A ((a * 31 + c) % 1000003) (.val (.int c)) (by omega) (by omega) rfl
    refine ⟨a', X', h2, h3, h5, loop_cons hk rfl (f := .nx) (z2 := ⟨[A, .val (.int ((a * 31 + c) % 1000003)), .val (.int c)], []⟩) ?_ h4⟩
    unfold lp_law_state1
    exact cs_set (ev_mod (ev_blt1 (ev_add (ev_mul (ev_var rfl) ev_c (Smn.of (by omega)) (Smn.nat (by decide)) (by decide) (by decide)) (ev_var rfl)) lf_int1) ev_c (by decide)) rfl
theorem comp_ev (cs : List Int) (A B X : Sl) (hX : N.isOwn (some X) = false) (hA : A = .val (.scr (cs.map D.int))) (hl : cs.length ≤ 63) : N.comp (I.seqC (E.var 0)) (G.nm 2) [2] (Mi.ret true) (E.blt F.abs [(E.var 2)]) ⟨[A, B, X], []⟩ = some ((cs.map fun i => if i < 0 then -i else i).map D.int, ⟨[A, B, X], []⟩) := by
  subst hA
  have hl2 : (cs.map D.int).length ≤ szl := by
    rw [List.length_map]
    exact Nat.le_trans hl (by decide)
  have e := ev_comp (g := G.nm 2) (vs := [2]) (tt := Mi.ret true) (te := E.blt F.abs [(E.var 2)]) (z := ⟨[.val (.scr (cs.map D.int)), B, X], []⟩) (ev_seqC (x := .scr (cs.map D.int)) (ev_var (n := 0) rfl) rfl) hl2 (by show (!N.isOwn (some X) && true) = true; rw [hX]; rfl)
    (comp_loop rfl (fun _ => true) (fun d => match d with | .int i => .int (if i < 0 then -i else i) | d => d) ⟨[.val (.scr (cs.map D.int)), B, .no], []⟩ (fun d hd => ?_) _ [] fun d hd => hd)
  · rw [e]
    have e2 : (cs.map fun i => if i < 0 then -i else i).map D.int = [] ++ ((cs.map D.int).filter fun _ => true).map (fun d => match d with | .int i => .int (if i < 0 then -i else i) | d => d) := by
      rw [List.filter_eq_self.mpr (fun _ _ => rfl), List.nil_append, List.map_map, List.map_map]
      rfl
    rw [e2]
    rfl
  · obtain ⟨i, hi, rfl⟩ := List.mem_map.mp hd
    refine ⟨⟨[.val (.scr (cs.map D.int)), B, .val (.int i)], []⟩, _, ⟨[.val (.scr (cs.map D.int)), B, .val (.int i)], []⟩, rfl, rfl, fun _ => ⟨?_, rfl⟩, fun _ => rfl, fun h => nomatch h⟩
    exact ev_blt1 (ev_var rfl) lf_abs
theorem state_ev (ns : List Int) (hl : ns.length ≤ 63) : ∃ s : DS, m_law_state [.scr (ns.map D.int)] [] = some (.ref 1, stH s) := by
  obtain ⟨a', X', h2, h3, h4⟩ := loop_ev ⟨ns.map D.int, none⟩ rfl ns (.val (.scr (ns.map D.int))) 7 .no (by decide) (by decide) rfl
  refine ⟨⟨ns.map fun i => if i < 0 then -i else i, a' + 1, by omega⟩, ?_⟩
  obtain ⟨hX, h4⟩ := h4
  unfold m_law_state
  apply fn_rtH rfl
  unfold b_law_state
  refine cs_nx (cs_set ev_c rfl) ?_
  refine cs_nx (cs_for (ev_seq (ev_var rfl) rfl) h4) ?_
  exact cs_ret (ev_shr (ev_disp (ev_args (ev_shr (comp_ev ns _ _ X' hX rfl hl)) (ev_args (ev_add (ev_var rfl) ev_c) ev_args0 rfl) rfl))) rfl
end Dr
end Mi

set_option Elab.async false
set_option linter.all false
set_option maxRecDepth 100000
/-! Mi, part X: sorted, repr. -/
namespace Mi
open PySem PySem.Spec PyProof.Rows L2 PySem.W
/-- the key of a thing that can be sorted by itself -/
def pk (d : D) : PyData := (O.toP d).getD .none
def alikeB (ps : List PyData) : Bool := ps.all fun p => ps.all fun q => alike p q
def headTup : PyData → Bool
  | .tuple (_ :: _) => true
  | _ => false
def noTup : PyData → Bool
  | .none => false
  | .tuple _ => false
  | _ => true
def sortB (ps : List PyData) : Bool := ps.all headTup || ps.all noTup
def srtOk (ps : List PyData) : Bool := alikeB ps && sortB ps && ps.all fun p => decide (p.depth ≤ 40)
theorem alikeB_ok {ps : List PyData} (h : alikeB ps = true) : AllAlike ps := fun d hd e he =>
  List.all_eq_true.mp (List.all_eq_true.mp h d hd) e he
theorem sortB_ok {ps : List PyData} (h : sortB ps = true) : PySem.W.Sortable ps := by
  unfold sortB at h
  rw [Bool.or_eq_true] at h
  rcases h with h | h
  · refine .inl fun d hd => ?_
    have q := List.all_eq_true.mp h d hd
    unfold headTup at q
    split at q
    · exact ⟨_, _, rfl⟩
    · cases q
  · refine .inr fun d hd => ?_
    have q := List.all_eq_true.mp h d hd
    constructor
    · intro e; subst e; cases q
    · intro xs e; subst e; cases q
/-- the sorted list, stable -/
def srt (k : D → PyData) (ds : List D) : List D := ds.mergeSort (dataLe false k)
def N.sorted (m : M D) : M (List D) := bnd m fun x z => match cont x z with
  | some (false, ds) => match O.toPs ds with
    | some ps => if ds.length ≤ szl ∧ srtOk ps = true then some (srt pk ds, z) else none
    | none => none
  | _ => none
theorem toPs_pk : ∀ {ds : List D} {ps : List PyData}, O.toPs ds = some ps → ps = ds.map pk
  | [], ps, h => by cases h; rfl
  | d :: ds, ps, h => by
    rw [O.toPs] at h
    split at h
    · rename_i a as h1 h2
      cases h
      rw [List.map_cons, ← toPs_pk h2]
      unfold pk
      rw [h1]
      rfl
    · cases h
/-! the rule over the hand layer's heap -/
def rSrt (K : PySem.W.Frag) : List V → Hp → VK → Prop := fun vs H Q => ∃ (a : Addr) (xs : List V) (ds : List D) (T : V → D → Prop), vs = [V.ref a] ∧ SqL K H a xs ∧ EachIs (fun x d => Dp K H x (pk d) ∧ T x d) xs ds ∧
  AllAlike (ds.map pk) ∧ PySem.W.Sortable (ds.map pk) ∧ (∀ d ∈ ds, (pk d).depth ≤ 40) ∧ ∀ ys p, EachIs T ys (srt pk ds) → H p = none → Q (.ref p) (upd H p (.lst ys))
theorem each_raw {T : V → D → Prop} {S : Value → D → Prop} (f : ∀ x d u, T x d → RelV x u → S u d) : ∀ {xs : List V} {us : List Value} {ds : List D}, Vals xs us → EachIs T xs ds → EachIs S us ds
  | _, _, _, .nil, .nil => .nil
  | _, _, _, .cons r rs, .cons t ts => .cons (f _ _ _ t r) (each_raw f rs ts)
theorem each_abs {T : V → D → Prop} : ∀ {us : List Value} {ds : List D}, EachIs (fun u d => ∃ x, RelV x u ∧ T x d) us ds → ∃ xs, Vals xs us ∧ EachIs T xs ds
  | _, _, .nil => ⟨[], .nil, .nil⟩
  | _, _, .cons ⟨x, r, t⟩ h => by
    obtain ⟨xs, rs, ts⟩ := each_abs h
    exact ⟨x :: xs, .cons r rs, .cons t ts⟩
section
variable {X : Cx} {Tb : Tbs}
theorem call_srt (hu : X.A.units + 64 < cLine) : CallR X (.builtin "sorted") (rSrt X.K) := by
  intro pn st sg Hh args raws Qq Iv rr hyp
  obtain ⟨a, xs, ds, T, rfl, hs, ea, hal, hso, hdp, q⟩ := hyp
  obtain ⟨its, rv, hl, hz⟩ := Iv.list hs
  rw [Vals.ref1 rr]
  have e1 : EachIs (fun u d => ∃ x, RelV x u ∧ T x d) its ds := each_raw (fun x d u t r => ⟨x, r, t.2⟩) rv ea
  have e2 : EachIs (fun u d => ∃ as, Reads st.heap u (pk d) as) its ds := each_raw (fun x d u t r => Dp.reads Iv (pk d) x u t.1 r) rv ea
  have lz : ds.length ≤ sizeLine := by rw [← ea.length]; exact hz
  refine PySem.W.sorted_data hl.isList e1 e2 hal hso lz (fun d hd => ?_) fun out hlen eo => ?_
  · have := hdp d hd; omega
  · obtain ⟨ys, ry, ey⟩ := each_abs eo
    obtain ⟨ep, hat⟩ := PyProof.Rows.sortedAll_at st.heap its (List.toArray out)
    have yl : ys.length ≤ sizeLine := by rw [ry.length, hlen]; exact lz
    exact ⟨.ref _, upd Hh (st.heap.objs.size + 1) (.lst ys), Iv.laid (t' := st.toks) (fun _ _ => PyProof.Rows.sortedAll_old) (Nat.le_succ _) ⟨yl, out, ep, ry, hat⟩, rfl, q _ _ ey (Iv.hok.fresh (Nat.le_succ _))⟩
theorem each_rps {K : Kx} {F : Hp} {rho : List Addr} : ∀ {ys : List V} {ds : List D}, EachIs (fun v d => Rp K F rho d v) ys ds → Rps K F rho ds ys
  | _, _, .nil => .nil
  | _, _, .cons h t => .cons h (each_rps t)
theorem rps_each {K : Kx} {F H : Hp} {rho : List Addr} (e : Same F H) : ∀ {ds : List D} {xs : List V} {ps : List PyData}, O.toPs ds = some ps → Rps K F rho ds xs → EachIs (fun x d => Dp K H x (pk d) ∧ Rp K F rho d x) xs ds
  | [], _, ps, _, .nil => .nil
  | d :: ds, _, ps, h, .cons r rs => by
    rw [O.toPs] at h
    split at h
    · rename_i a as h1 h2
      refine .cons ⟨?_, r⟩ (rps_each e h2 rs)
      unfold pk
      rw [h1]
      exact toP_ok e h1 r
    · cases h
theorem mf_sorted {p pos : Pos} {e : Expr} {m : M D} (hu : X.A.units + 64 < cLine) (hg : Gl X "sorted") (hm : X.mg "sorted" = none) (ha : PE X e (Te (kx X Tb) m)) (hv : bootBuiltins "sorted" = some (.builtin "sorted") := by decide +kernel)
    (he : starEach [e] X.env = (false, eval e X.env) :: starEach [] X.env := by rfl) (hpl : (backTo pos (starEach [] X.env)).any (·.1) = false := by rfl) : PE X (.Call (.Name "sorted" p) [e] [] pos) (Tf (kx X Tb) (N.sorted m)) := by
  refine pe_imp (pe_callB (call_srt hu) hg hm hv (pa_cons ha pa_nil he) (by decide) (by decide) he hpl) fun σ H Q ⟨B, F, rho, om, z, g⟩ => ?_
  refine (g.bnd.imp fun _ _ H1 _ _ v _ _ _ _ _ ⟨F2, rho2, z2, x, eg1, s1, p1, r1, g1⟩ => ?_).tx (R := rV (kx X Tb))
  obtain ⟨R, d, z4, e, k⟩ := g1
  dsimp only at e
  split at e
  · rename_i ds hc
    split at e
    · rename_i ps hp
      split at e
      · rename_i c
        cases e
        obtain ⟨a, xs, rfl, q, h⟩ := cont_ok R r1 hc
        obtain ⟨c1, c2⟩ := c
        unfold srtOk at c2
        rw [Bool.and_eq_true, Bool.and_eq_true] at c2
        rw [toPs_pk hp] at c2
        refine ⟨a, xs, ds, fun v d => Rp (kx X Tb) F2 rho2 d v, rfl, ?_, rps_each R.rh.fro hp q, alikeB_ok c2.1.1, sortB_ok c2.1.2, fun d hd => ?_, fun ys l ey hl => ?_⟩
        · rcases h with ⟨_, h⟩ | ⟨h, _⟩
          · exact h
          · cases h
        · exact of_decide_eq_true (List.all_eq_true.mp c2.2 _ (List.mem_map_of_mem hd))
        · obtain ⟨R2, f2⟩ := R.new (o := .lst ys) hl
          exact k F2 rho2 _ _ (Same.refl _) (List.prefix_refl _) R2 ⟨l, ys, rfl, upd_same, f2, each_rps ey⟩
      · cases e
    · cases e
  · cases e
/-! ### repr, outside any __repr__ -/
def rowP : PyData → Bool
  | .list _ => true
  | .tuple _ => true
  | _ => false
def rprOk (p : PyData) : Bool := rowP p && p.showable && !p.hasDict && decide (p.depth ≤ 40)
def F.repr : List D → Z → Option D
  | [x], z => match O.toP (O.snap x z) with
    | some p => if rprOk p = true ∧ p.shown.length ≤ sizeLine then some (.str p.shown) else none
    | none => none
  | _, _ => none
def rRpr (K : PySem.W.Frag) : List V → Hp → VK → Prop := fun vs H Q => ∃ (x : V) (p : PyData), vs = [x] ∧ Dp K H x p ∧ rprOk p = true ∧ p.shown.length ≤ sizeLine ∧ Q (.str p.shown) H
theorem call_rpr (hu : X.A.units + 64 < cLine) (gA : X.A.guards = some []) : CallR X (.builtin "repr") (rRpr X.K) := by
  intro pn st sg Hh args raws Qq Iv rr hyp
  obtain ⟨x, p, rfl, dp, c, hz, q⟩ := hyp
  obtain ⟨u, rfl, ru⟩ : ∃ u, raws = [u] ∧ RelV x u := by
    cases rr with
    | cons r1 r2 => cases r2; exact ⟨_, rfl, r1⟩
  obtain ⟨as, rd⟩ := Dp.reads Iv p x u dp ru
  unfold rprOk at c
  rw [Bool.and_eq_true, Bool.and_eq_true, Bool.and_eq_true] at c
  obtain ⟨⟨⟨c1, c2⟩, c3⟩, c4⟩ := c
  have c4 := of_decide_eq_true c4
  have nd : p.hasDict = false := by simpa using c3
  obtain ⟨a, rfl⟩ : ∃ a, u = Value.ref a := by
    cases dp with
    | lst _ _ => exact ⟨_, ru⟩
    | tup _ _ => exact ⟨_, ru⟩
    | non => cases c1
    | bl => cases c1
    | int => cases c1
    | str => cases c1
  refine repr_of_reads' rd c2 (PyData.noDict_hsm nd) gA (by omega) (fun _ _ z => z) (fun hp t tk keep => ?_) hz
  exact ⟨.str p.shown, Hh, Iv.kept keep, ⟨t, rfl⟩, q⟩
theorem f_repr (hu : X.A.units + 64 < cLine) (gA : X.A.guards = some []) : CallM X (.builtin "repr") F.repr := by
  refine ⟨_, call_rpr hu gA, ?_⟩
  intro Tb B F rho om z σ H xs vs d R r e Q k
  unfold Mi.F.repr at e
  split at e
  · obtain ⟨v, rfl, rv⟩ := rvs1 r
    split at e
    · rename_i p hp
      split at e
      · rename_i c
        cases e
        exact ⟨v, p, rfl, snap_ok R rv hp, c.1, c.2, k F H _ (Same.refl F) R (.pure (.str _))⟩
      · cases e
    · cases e
  · cases e
end
end Mi

set_option Elab.async false
set_option linter.all false
set_option maxRecDepth 100000
/-! Mi, part Y: the law's own def is called with nothing being shown (the guards are known to be none): repr may be asked in it. -/
namespace Mi
open PySem PySem.Spec PyProof.Rows L2 PySem.W
/-- the promise of a def at calls from outside any __repr__ -/
def GOk (P : Program) (w : World) (K : PySem.W.Frag) (mg : Str → Option Value) (base : Heap) (k : Nat) (f : Addr) (fd : FuncData) (ps : List Str) (sp : Sp) : Prop :=
  ∀ (A : Around) (env : List Env) (sh : Shared) (Hh : Hp) (ar : Args) (us : List Value) (xs : List V) (Qq : VK) (Ee : XK), A.guards = some [] → Room k A → Env0 P w K mg base A env sh Hh → BindsTo sh fd ar (ps.zip us) → Vals xs us →
    sp xs Hh Qq Ee → codeAny (model P w) A (.call (.ref f) ar) (CR CX0 env P w Hh sh Qq Ee) sh
section
variable {P : Program} {w : World} {K : PySem.W.Frag} {mg : Str → Option Value} {base : Heap}
theorem gok_of {x qual : Str} {st : Stmt} {f : Addr} {fd : FuncData} {N ps : List Str} {k : Nat} {sp : Sp} (F : Fun K x qual st f fd) (S : FnScope N ps (defScope st)) (len : ∀ xs Hh Qq Ee, sp xs Hh Qq Ee → xs.length = ps.length)
    (body : ∀ (cv : Value) (A : Around) (env : List Env) (sh : Shared) (Hh : Hp) (xs : List V) (Qq : VK) (Ee : XK), A.guards = some [] → Room k (A.deeper (envOfC qual (defScope st) sh.heap.objs.size f cv)) → sp xs Hh Qq Ee →
      ∃ t, PSs (cxOf CX0 P w K mg base N qual (defScope st) f cv A env sh Hh Ee).nox (defBody st) t ∧ t { nx := fun _ H2 => Qq .non H2, rt := Qq } (start N xs) Hh) : GOk P w K mg base (k + 1) f fd ps sp := by
  obtain ⟨c1, c2, c3, c4, c5, c6, cv, c7, c8, rfl, lk, hcd⟩ := F.ex
  intro A env sh Hh ar us xs Qq Ee gA room e0 bd rx hsp
  have xl := len _ _ _ _ hsp
  have kin : K.In sh.heap := e0.mod.kin.keeps fun p u q => (e0.bs p u q).1
  have lim : sh.heap.NoLimit := e0.mod.nolimit.keeps fun p u q => (e0.bs p u q).1
  have kinds : ∀ y ∈ ps.zip us, (defScope st).names.lookup y.1 = some .local ∨ ((defScope st).names.lookup y.1 = some .cell ∧ ((cellsFrom (sh.heap.objs.size + 1) (defScope st).names []).lookup y.1).isSome = true) := by
    rintro ⟨nm, vv⟩ hy
    have hm := (List.of_mem_zip hy).1
    cases S.par nm hm with
    | inl l => exact Or.inl l
    | inr c => exact Or.inr ⟨c, PySem.W.cellsFrom_some _ _ _ (Or.inl c)⟩
  apply codeAny_call_function room.depth (kin _ _ lk) rfl S.co S.gen rfl (PySem.W.codeRec_of kin hcd) (bd _ _ _ _ ?_)
  apply wpAny_newFunctionEnv_cells S.kind kinds
  intro en hen s2 xx
  subst hen
  refine And.intro (lim.keeps xx.toInCall.keep) (codeAny_func ?_)
  obtain ⟨t, pt, tq⟩ := body cv A env sh Hh xs Qq Ee gA (room.deeper _) hsp
  have Iv : Inv (cxOf CX0 P w K mg base N qual (defScope st) f cv A env sh Hh Ee) [] (start N xs) Hh s2 := inv_start S room.hd e0 xl rx xx
  apply wpAny_mono (pt.nox.run [] s2 (start N xs) Hh _ Iv tq) ?_ (fun _ _ q => q)
  intro fl s3 hs
  have done : ∀ {sg2 : L2.St} {H2 : Hp} {v : V} {u : Value}, Inv (cxOf CX0 P w K mg base N qual (defScope st) f cv A env sh Hh Ee) [] sg2 H2 s3 → RelV v u → Qq v H2 → CE env P w Hh sh Qq u s3 := by
    intro sg2 H2 v u J rv q
    exact ⟨v, H2, J.os, J.bare, J.base, J.hok, rv, q⟩
  match fl, hs with
  | .ret u, ⟨v, sg2, H2, J, rv, q⟩ => exact done J rv q
  | .next, ⟨sg2, H2, J, q⟩ => exact done (v := V.non) (u := Value.none) J rfl q
  | .brk, ⟨_, _, _, q⟩ => exact q.elim
  | .cont, ⟨_, _, _, q⟩ => exact q.elim
end
/-- a def by its body, where the body may ask for a repr -/
theorem fn_gok {P : Program} {w : World} {K : Kx} {mg : Str → Option Value} {base : Heap} {x qual : Str} {st : Stmt} {f : Addr} {fd : FuncData} {N ps : List Str} {k n kk : Nat} {b : C} (F : Fun K x qual st f fd) (S : FnScope N ps (defScope st)) (hn : N.length = n) (hk : ps.length = kk)
    (hb : ∀ (cv : Value) (A : Around) (env : List Env) (sh : Shared) (Hh : Hp) (Ee : XK), A.guards = some [] → Room k (A.deeper (envOfC qual (defScope st) sh.heap.objs.size f cv)) → PSs (cxOf CX0 P w K mg base N qual (defScope st) f cv A env sh Hh Ee).nox (defBody st) (Ts K b)) :
    GOk P w K mg base (k + 1) f fd ps (spM kk K (fn n kk b)) := by
  intro A env sh Hh ar us xs Qq Ee gA room e0 bd rx hsp
  have G : GOk P w K mg base (k + 1) f fd ps (spM kk K (fn n kk b)) := by
    subst hn hk
    refine gok_of F S (fun _ _ _ _ q => q.1) fun cv A env sh Hh xs Qq Ee gA room hsp => ⟨_, hb cv A env sh Hh Ee gA room, ?_⟩
    exact fn_body S hsp
  exact G A env sh Hh ar us xs Qq Ee gA room e0 bd rx hsp
/-- the law's tables of code objects, as the head leaves them: code object, table, the code's name -/
structure Cs where
  c : Addr
  p : Addr
  q : Str
def tbs (cs : List Cs) : List (Addr × Str) := cs.map fun z => (z.p, z.q)
/-- at the head's end -/
structure CsOk (K : PySem.W.Frag) (hp : Heap) (cs : List Cs) : Prop where
  tab : ∀ z ∈ cs, hp.get? z.p = some (PySem.W.tabObj #[])
  notK : ∀ z ∈ cs, K.lookup z.p = none
  code : ∀ z ∈ cs, PySem.W.CodeHd hp z.c z.p
  one : ∀ z ∈ cs, ∀ y ∈ cs, z.p = y.p → z.q = y.q
theorem CsOk.nil {K : PySem.W.Frag} {hp : Heap} : CsOk K hp [] := ⟨(fun _ h => nomatch h), (fun _ h => nomatch h), (fun _ h => nomatch h), fun _ h => nomatch h⟩
/-- the main module's namespace of built-ins -/
def BMain (mg : Str → Option Value) (hp : Heap) : Prop := ∃ (bm : Addr) (ob : Obj), mg "__builtins__" = some (.ref bm) ∧ bm ≠ builtinsNs ∧ hp.get? bm = some ob ∧ ob.cls = .type "module" ∧ ob.dict = some builtinsNs ∧ ob.data = .plain
/-- the law's row at its call; the heap Hh in which at most the script and the tables are seen -/
theorem row_at {P : Program} {w : World} {K : PySem.W.Frag} {mg mb : Str → Option Value} {k : Nat} {fa a : Addr} {fd : FuncData} {x : Str} {sp : Sp} {sh : Shared} {us : List Value} {Hh : Hp} {cs : List Cs}
    (kin : K.In sh.heap) (nm : sh.heap.Ns mainGlobals mg) (nb : sh.heap.Ns builtinsNs mb) (nbb : ∀ y : Str, y ≠ "__name__" → mb y = bootBuiltins y) (lim : sh.heap.NoLimit) (gens : sh.gens = #[]) (ck : CsOk K sh.heap cs) (bmn : BMain mg sh.heap)
    (scr : sh.heap.get? a = some { cls := .type "list", data := .seq us.toArray }) (room : Room k callerA)
    (F : ∀ base : Heap, K.In base → base.Ns mainGlobals mg → (∀ z ∈ cs, LamX.TabB base mg z.c z.p) → GOk P w K mg base k fa fd [x] sp) (bind : ∀ (s2 : Shared) (u : Value), BindsTo s2 fd ⟨[u], []⟩ [(x, u)])
    (only : ∀ b, Hh b = none ∨ (∃ z ∈ cs, z.p = b) ∨ ∃ ob ys, Hh b = some (.frz ob ys)) (hok : HOk P w Hh sh.heap) (seen : ∀ b, Hh b ≠ none → b = a ∨ ∃ z ∈ cs, z.p = b) (new : Hh a ≠ none → K.lookup a = none) (hT : ∀ z ∈ cs, Hh z.p = some (.tbl #[])) (pr : sp [.ref a] Hh (fun v _ => v = .bl true) fun _ _ _ => False) :
    codeAny (model P w) callerA (.call (.ref fa) ⟨[.ref a], []⟩) (fun rs s2 => rs = .ok (.ret (.bool true)) ∧ OldK sh.heap s2.heap ∧ s2.os = sh.os ∧ AllBare s2.gens) sh := by
  have keeps : ∀ {b : Addr} {o : Obj}, sh.heap.get? b = some o → (∀ ys m, o.data ≠ .seq ys m) → o.data ≠ .fields #[] → (hidT sh.heap Hh).get? b = some o := by
    intro b o p n1 n2
    refine hidT_get p ?_
    cases hb : Hh b with
    | none => rfl
    | some u =>
      rcases seen b (by rw [hb]; exact Option.some_ne_none u) with rfl | ⟨z, hz, rfl⟩
      · rw [scr] at p
        cases p
        exact (n1 _ _ rfl).elim
      · rw [ck.tab z hz] at p
        cases p
        exact (n2 rfl).elim
  have nsHid : ∀ {b : Addr} {m : Str → Option Value}, sh.heap.Ns b m → (hidT sh.heap Hh).Ns b m := by
    rintro b m ⟨o, es, ep, p, dd, rr⟩
    exact ⟨o, es, ep, keeps p (fun ys n c => by rw [dd] at c; cases c) (fun c => by rw [dd] at c; cases c), dd, rr⟩
  have kinHid : K.In (hidT sh.heap Hh) := by
    intro b o lk
    refine hidT_get (kin b o lk) ?_
    cases hb : Hh b with
    | none => rfl
    | some u =>
      rcases seen b (by rw [hb]; exact Option.some_ne_none u) with rfl | ⟨z, hz, rfl⟩
      · rw [new (by rw [hb]; exact Option.some_ne_none u)] at lk
        cases lk
      · rw [ck.notK z hz] at lk
        cases lk
  have md : Mod K mg (hidT sh.heap Hh) := by
    refine ⟨kinHid, nsHid nm, ⟨mb, nsHid nb, nbb⟩, ?_⟩
    obtain ⟨mc, l1, l2⟩ := lim
    exact ⟨mc, nsHid l1, l2⟩
  have tb : ∀ z ∈ cs, LamX.TabB (hidT sh.heap Hh) mg z.c z.p := by
    intro z hz
    have hP := ck.tab z hz
    refine ⟨?_, ?_, fun c => ?_⟩
    · obtain ⟨o, fs, fl, t1, g1, t2, i1, x1, t3, q0, q1, q2, q3, qs⟩ := ck.code z hz
      refine ⟨o, fs, fl, t1, g1, t2, i1, x1, t3, keeps q0 (fun ys n c => by rw [q2] at c; cases c) (fun c => ?_), q1, q2, q3, qs⟩
      rw [q2] at c
      cases c
      simp at q3
    · obtain ⟨bm, ob, q1, q2, q3, q4, q5, q6⟩ := bmn
      refine ⟨bm, ob, q1, q2, fun c => ?_, fun c => ?_, keeps q3 (fun ys n c => by rw [q6] at c; cases c) (fun c => by rw [q6] at c; cases c), q4, q5, q6⟩
      · obtain ⟨o, es, ep, p, dd, _⟩ := nm
        rw [c, p] at q3
        cases q3
        rw [dd] at q6
        cases q6
      · rw [c, hP] at q3
        cases q3
        cases q6
    · obtain ⟨o, es, ep, p, dd, _⟩ := nm
      rw [c, hP] at p
      cases p
      cases dd
  have e0 : Env0 P w K mg (hidT sh.heap Hh) callerA [] sh Hh :=
    { frames := rfl, mod := md, bs := fun _ _ p => of_hidT p, bsz := Nat.le_of_eq (hidT_size _ _), funs := trivial, frf := fun b hb => absurd hb List.not_mem_nil, hok := hok, bare := .of_eq gens }
  have run := F _ kinHid (nsHid nm) tb callerA [] sh Hh ⟨[.ref a], []⟩ [.ref a] [.ref a] _ _ rfl room e0 (bind sh (.ref a)) (.cons rfl .nil) pr
  apply codeAny_mono run
  intro rs s2 hr
  match rs, hr with
  | .error e, hr => exact False.elim hr
  | .ok .next, hr => exact False.elim hr
  | .ok .brk, hr => exact False.elim hr
  | .ok .cont, hr => exact False.elim hr
  | .ok (.ret u), ⟨v, H2, os, bare, un, hok2, rv, q⟩ =>
    have q : v = .bl true := q
    subst q
    have rv : u = Value.bool true := rv
    subst rv
    have grow : ∀ z ∈ cs, ∃ vs : Array Value, s2.heap.get? z.p = some (PySem.W.tabObj vs) := by
      intro z hz
      obtain ⟨vs, e⟩ := un.tbls z.p #[] (hT z hz)
      exact ⟨_, hok2 z.p _ e⟩
    have same : ∀ {b : Addr} {o : Obj}, (¬ ∃ z ∈ cs, z.p = b) → sh.heap.get? b = some o → s2.heap.get? b = some o := by
      intro b o nz p
      rcases only b with c | c | ⟨ob, ys, c⟩
      · exact un.keep b o p c (fun z => absurd z List.not_mem_nil) List.not_mem_nil
      · exact absurd c nz
      · have p1 := (hok b _ c).1
        have p2 := (hok2 b _ (un.frzs b ob _ c)).1
        rw [p] at p1
        cases p1
        exact p2
    refine ⟨rfl, ⟨fun b o p => ?_, fun b o p => ?_⟩, os, bare⟩
    · by_cases c : ∃ z ∈ cs, z.p = b
      · obtain ⟨z, hz, rfl⟩ := c
        obtain ⟨vs, e⟩ := grow z hz
        rw [ck.tab z hz] at p
        cases p
        exact .inr (.inl ⟨((ck.code z hz).tab (ck.tab z hz)).isCodeTable, rfl, #[], vs, rfl, by simpa using e⟩)
      · exact .inl (same c p)
    · by_cases c : ∃ z ∈ cs, z.p = b
      · obtain ⟨z, hz, rfl⟩ := c
        obtain ⟨vs, e⟩ := grow z hz
        exact ⟨_, e⟩
      · exact ⟨o, same c p⟩
theorem row_call {P : Program} {w : World} {K : PySem.W.Frag} {mg mb : Str → Option Value} {k : Nat} {fa a : Addr} {fd : FuncData} {x : Str} {sp : Sp} {sh : Shared} {us : List Value} {ns : List Int} {cs : List Cs}
    (kin : K.In sh.heap) (nm : sh.heap.Ns mainGlobals mg) (nb : sh.heap.Ns builtinsNs mb) (nbb : ∀ y : Str, y ≠ "__name__" → mb y = bootBuiltins y) (lim : sh.heap.NoLimit) (gens : sh.gens = #[]) (ck : CsOk K sh.heap cs) (bmn : BMain mg sh.heap)
    (scr : sh.heap.get? a = some { cls := .type "list", data := .seq us.toArray }) (iar : IntsAre us ns) (short : ns.length ≤ sizeLine) (room : Room k callerA)
    (F : ∀ base : Heap, K.In base → base.Ns mainGlobals mg → (∀ z ∈ cs, LamX.TabB base mg z.c z.p) → GOk P w K mg base k fa fd [x] sp) (bind : ∀ (s2 : Shared) (u : Value), BindsTo s2 fd ⟨[u], []⟩ [(x, u)])
    (pr : ∀ Hh : Hp, (∀ z ∈ cs, Hh z.p = some (.tbl #[])) → SqL K Hh a (ns.map V.int) → sp [.ref a] Hh (fun v _ => v = .bl true) fun _ _ _ => False) :
    codeAny (model P w) callerA (.call (.ref fa) ⟨[.ref a], []⟩) (fun rs s2 => rs = .ok (.ret (.bool true)) ∧ OldK sh.heap s2.heap ∧ s2.os = sh.os ∧ AllBare s2.gens) sh := by
  have rv := L2.vals_ints iar
  have nl : (ns.map V.int).length ≤ sizeLine := by rw [List.length_map]; exact short
  have aT : ¬ ∃ z ∈ cs, z.p = a := by
    rintro ⟨z, hz, rfl⟩
    have := ck.tab z hz
    rw [scr] at this
    cases this
  classical
  cases hk : K.lookup a with
  | some o =>
    have p := kin a o hk
    rw [scr] at p
    cases p
    have ul : us.toArray.size ≤ sizeLine := by rw [List.size_toArray, iar.length]; exact short
    have rv2 : Vals (ns.map V.int) us.toArray.toList := by simpa using rv
    let Ht : Hp := fun b => if ∃ z ∈ cs, z.p = b then some (.tbl #[]) else none
    have hT : ∀ z ∈ cs, Ht z.p = some (.tbl #[]) := fun z hz => if_pos ⟨z, hz, rfl⟩
    have off : ∀ {b : Addr}, (¬ ∃ z ∈ cs, z.p = b) → Ht b = none := fun c => if_neg c
    refine row_at (cs := cs) kin nm nb nbb lim gens ck bmn scr room F bind (Hh := Ht) (fun b => ?_) (fun b u e => ?_) (fun b e => ?_) (fun e => absurd (off aT) e) hT (pr _ hT (.inr ⟨_, us.toArray, _, hk, rfl, rfl, rfl, ul, rv2⟩))
    · by_cases c : ∃ z ∈ cs, z.p = b
      · exact .inr (.inl c)
      · exact .inl (off c)
    · by_cases c : ∃ z ∈ cs, z.p = b
      · obtain ⟨z, hz, rfl⟩ := c
        rw [hT z hz] at e
        cases e
        exact ck.tab z hz
      · rw [off c] at e
        cases e
    · by_cases c : ∃ z ∈ cs, z.p = b
      · exact .inr c
      · exact absurd (off c) e
  | none =>
    let Hs : Hp := fun b => if b = a then some (.frz { cls := .type "list", data := .seq us.toArray } (.lst (ns.map V.int))) else if ∃ z ∈ cs, z.p = b then some (.tbl #[]) else none
    have atA : Hs a = some (.frz { cls := .type "list", data := .seq us.toArray } (.lst (ns.map V.int))) := if_pos rfl
    have hT : ∀ z ∈ cs, Hs z.p = some (.tbl #[]) := fun z hz => (if_neg fun c => aT ⟨z, hz, c⟩).trans (if_pos ⟨z, hz, rfl⟩)
    have off : ∀ {b : Addr}, b ≠ a → (¬ ∃ z ∈ cs, z.p = b) → Hs b = none := fun n c => (if_neg n).trans (if_neg c)
    refine row_at (cs := cs) kin nm nb nbb lim gens ck bmn scr room F bind (Hh := Hs) (fun b => ?_) (fun b u e => ?_) (fun b e => ?_) (fun _ => hk) hT (pr Hs hT (.inl (.inr ⟨_, atA⟩)))
    · by_cases hb : b = a
      · subst hb; exact .inr (.inr ⟨_, _, atA⟩)
      · by_cases c : ∃ z ∈ cs, z.p = b
        · exact .inr (.inl c)
        · exact .inl (off hb c)
    · by_cases hb : b = a
      · subst hb
        rw [atA] at e
        cases e
        exact ⟨scr, nl, us, _, rv, scr⟩
      · by_cases c : ∃ z ∈ cs, z.p = b
        · obtain ⟨z, hz, rfl⟩ := c
          rw [hT z hz] at e
          cases e
          exact ck.tab z hz
        · rw [off hb c] at e
          cases e
    · by_cases hb : b = a
      · exact .inl hb
      · by_cases c : ∃ z ∈ cs, z.p = b
        · exact .inr c
        · exact absurd (off hb c) e
/-- the end of a law's row -/
theorem walkT {l : PySem.W.OpenLaw} {k : Nat} {q : Program} {loose : List Str} {XP : (Str → Option Value) → Heap → Prop} {YP : World → Heap → Prop} {d : DefRec} {K : Params → PySem.W.Frag} {x : Str} {mf : Fn} (most : l.most = some 63) (nodef : d.params.defaults = []) (room : Room k callerA)
    (inY : ∀ (w : World) (hp : Heap), YP w hp → (K w.params).In hp)
    (F : ∀ (w : World) (mg : Str → Option Value) (fa : Addr) (hp : Heap), YP w hp → (K w.params).In hp → hp.Ns mainGlobals mg → mg d.name = some (.ref fa) →
      ∃ (fd : FuncData) (cs : List Cs) (cl : List (Str × Addr)), CsOk (K w.params) hp cs ∧ (∀ (sh : Shared) (u : Value), BindsTo sh fd ⟨[u], []⟩ [(x, u)]) ∧ ∀ base : Heap, (K w.params).In base → base.Ns mainGlobals mg → (∀ z ∈ cs, LamX.TabB base mg z.c z.p) → GOk l.prog w (K w.params) mg base k fa fd [x] (spM 1 ⟨K w.params, ⟨tbs cs, cl⟩⟩ mf))
    (law : ∀ ns : List Int, ns.length ≤ 63 → ∃ h', mf [.scr (ns.map D.int)] [] = some (.bl true, h')) : PySem.W.WalkO q loose XP YP l.row.toRowW d [] (fun f vs => PySem.call f vs) := by
  apply Att.attach_call most nodef
  intro w s0 s1 mg mb fa o pm cd doc a us ns G Y ho hd hcd hmg scr iar short gens
  have kin := inY w _ Y
  obtain ⟨fd, cs, cl, ck, hb, hF⟩ := F w mg fa _ Y kin G.T.g hmg
  refine row_call kin G.T.g G.T.b G.T.builtins G.T.nolimit gens ck G.T.bmain scr iar (Nat.le_trans short (by decide)) room hF hb fun Hh hT sq => ?_
  obtain ⟨h2, e⟩ := law ns short
  have rh : Rh ⟨K w.params, ⟨tbs cs, cl⟩⟩ (fun b => if ∃ z ∈ cs, z.p = b then none else Hh b) [] [] Hh := by
    classical
    refine ⟨fun b o e => ?_, rfl, (fun _ _ _ h => by simp at h), (fun _ _ _ h => by simp at h), (fun _ _ h => by simp at h), ⟨fun p hp => ?_, fun p hp y hy c => ?_, fun p hp => ?_⟩, fun _ _ _ h => by simp at h⟩
    · split at e
      · cases e
      · exact e
    · obtain ⟨z, hz, rfl⟩ := List.mem_map.mp hp
      refine ⟨#[], hT z hz, True.intro, fun pos cv hc => ?_⟩
      have hc : codeAmong pos [] = some cv := hc
      simp [codeAmong] at hc
    · obtain ⟨z, hz, rfl⟩ := List.mem_map.mp hp
      obtain ⟨z2, hz2, rfl⟩ := List.mem_map.mp hy
      exact ck.one z hz z2 hz2 c
    · obtain ⟨z, hz, rfl⟩ := List.mem_map.mp hp
      exact if_pos ⟨z, hz, rfl⟩
  have sq2 : SqL (K w.params) (fun b => if ∃ z ∈ cs, z.p = b then none else Hh b) a (ns.map V.int) := by
    have na : ¬ ∃ z ∈ cs, z.p = a := by
      rintro ⟨z, hz, rfl⟩
      have := ck.tab z hz
      rw [scr] at this
      cases this
    rcases sq with (sq | ⟨o, sq⟩) | sq
    · exact .inl (.inl ((if_neg na).trans sq))
    · exact .inl (.inr ⟨o, (if_neg na).trans sq⟩)
    · exact .inr sq
  exact ⟨rfl, _, [], [], [.scr (ns.map D.int)], rh, .one (.scr sq2 (.ints ns)), _, h2, e, fun _ _ _ v _ _ _ _ _ _ r => by cases r; rfl⟩
/-- .. where there is no table -/
theorem walkG {l : PySem.W.OpenLaw} {k : Nat} {q : Program} {loose : List Str} {XP : (Str → Option Value) → Heap → Prop} {YP : World → Heap → Prop} {d : DefRec} {K : Params → PySem.W.Frag} {x : Str} {mf : Fn} (most : l.most = some 63) (nodef : d.params.defaults = []) (room : Room k callerA)
    (inY : ∀ (w : World) (hp : Heap), YP w hp → (K w.params).In hp)
    (F : ∀ (w : World) (mg : Str → Option Value) (fa : Addr) (hp : Heap), (K w.params).In hp → hp.Ns mainGlobals mg → mg d.name = some (.ref fa) →
      ∃ (fd : FuncData) (cl : List (Str × Addr)), (∀ (sh : Shared) (u : Value), BindsTo sh fd ⟨[u], []⟩ [(x, u)]) ∧ ∀ base : Heap, (K w.params).In base → base.Ns mainGlobals mg → GOk l.prog w (K w.params) mg base k fa fd [x] (spM 1 ⟨K w.params, ⟨[], cl⟩⟩ mf))
    (law : ∀ ns : List Int, ns.length ≤ 63 → ∃ h', mf [.scr (ns.map D.int)] [] = some (.bl true, h')) : PySem.W.WalkO q loose XP YP l.row.toRowW d [] (fun f vs => PySem.call f vs) :=
  walkT most nodef room inY (fun w mg fa hp _ k1 k2 k3 => by
    obtain ⟨fd, cl, h1, h2⟩ := F w mg fa hp k1 k2 k3
    exact ⟨fd, [], cl, .nil, h1, fun base b1 b2 _ => h2 base b1 b2⟩) law
/-- a def's promise, as one from outside any __repr__ -/
theorem FnOk.g {P : Program} {w : World} {K : PySem.W.Frag} {mg : Str → Option Value} {base : Heap} {k : Nat} {f : Addr} {fd : FuncData} {ps : List Str} {sp : Sp} (h : FnOk P w K mg base CX0 k f fd ps sp) : GOk P w K mg base k f fd ps sp :=
  fun A env sh Hh ar us xs Qq Ee _ room e0 bd rx hsp => h.run A env sh Hh ar us xs Qq Ee room e0 bd rx hsp
end Mi

set_option Elab.async false
set_option linter.all false
set_option maxRecDepth 100000
/-! Mi, part Z: statements by what holds behind them. -/
namespace Mi
open PySem L2
/-- c runs to an end of which Φ holds -/
def Dz (c : C) (z : Z) (Φ : Fl → Z → Prop) : Prop := ∃ f z', c z = some (f, z') ∧ Φ f z'
section
variable {a b c : C} {z z1 : Z} {Φ Ψ : Fl → Z → Prop}
theorem Dz.of {f : Fl} (h : c z = some (f, z1)) (q : Φ f z1) : Dz c z Φ := ⟨f, z1, h, q⟩
theorem Dz.imp (h : Dz c z Ψ) (k : ∀ f z1, Ψ f z1 → Φ f z1) : Dz c z Φ := by
  obtain ⟨f, z1, e, q⟩ := h
  exact ⟨f, z1, e, k f z1 q⟩
theorem Dz.nx (h : a z = some (.nx, z1)) (k : Dz b z1 Φ) : Dz (C.seq a b) z Φ := by
  obtain ⟨f, z2, e, q⟩ := k
  exact ⟨f, z2, cs_nx h e, q⟩
theorem Dz.rt {d : D} (h : a z = some (.rt d, z1)) (q : Φ (.rt d) z1) : Dz (C.seq a b) z Φ := ⟨_, _, cs_rt h, q⟩
/-- behind a: on, or out -/
def onTo (b : C) (Φ : Fl → Z → Prop) : Fl → Z → Prop := fun f z => match f with
  | .nx => Dz b z Φ
  | f => Φ f z
theorem Dz.seq (h : Dz a z (onTo b Φ)) : Dz (C.seq a b) z Φ := by
  obtain ⟨f, z1, e, q⟩ := h
  cases f with
  | nx =>
    obtain ⟨f, z2, e2, q⟩ := (show Dz b z1 Φ from q)
    exact ⟨f, z2, cs_nx e e2, q⟩
  | rt d => exact ⟨_, _, cs_rt e, q⟩
  | bk => exact ⟨_, _, cs_bk e, q⟩
  | ct => exact ⟨_, _, cs_ct e, q⟩
/-- .. where a goes on -/
theorem Dz.thn {R : Z → Prop} (h : Dz a z fun f z1 => f = .nx ∧ R z1) (k : ∀ z1, R z1 → Dz b z1 Φ) : Dz (C.seq a b) z Φ := by
  refine Dz.seq (h.imp fun f z1 q => ?_)
  obtain ⟨rfl, q⟩ := q
  exact k z1 q
theorem Dz.ite {t : M Bool} {p : Bool} (h : t z = some (p, z1)) (hT : p = true → Dz a z1 Φ) (hF : p = false → Dz b z1 Φ) : Dz (C.ite t a b) z Φ := by
  cases p with
  | true =>
    obtain ⟨f, z2, e, q⟩ := hT rfl
    exact ⟨f, z2, cs_iteT h e, q⟩
  | false =>
    obtain ⟨f, z2, e, q⟩ := hF rfl
    exact ⟨f, z2, cs_iteF h e, q⟩
theorem Dz.skip (q : Φ .nx z) : Dz C.skip z Φ := ⟨_, _, cs_skip, q⟩
theorem Dz.brk (q : Φ .bk z) : Dz C.brk z Φ := ⟨_, _, rfl, q⟩
theorem Dz.cnt (q : Φ .ct z) : Dz C.cnt z Φ := ⟨_, _, rfl, q⟩
/-- the end of a turn -/
def turn (I : Z → Prop) (Φ : Fl → Z → Prop) : Fl → Z → Prop := fun f z => match f with
  | .nx => I z
  | .ct => I z
  | .bk => Φ .nx z
  | .rt d => Φ (.rt d) z
theorem Dz.loop {it : It} {g : G} (hk : it.chk = none) (I : List D → Z → Prop) (step : ∀ d ds z, I (d :: ds) z → ∃ z1, g.run d z = some z1 ∧ Dz b z1 (turn (I ds) Φ)) (fin : ∀ z, I [] z → Φ .nx z) : ∀ (ds : List D) (z : Z), I ds z → Dz (C.loop it g b ds) z Φ
  | [], z, h => ⟨_, _, loop_nil hk, fin z h⟩
  | d :: ds, z, h => by
    obtain ⟨z1, e1, f, z2, e2, q⟩ := step d ds z h
    cases f with
    | nx =>
      obtain ⟨f, z3, e3, q3⟩ := Dz.loop hk I step fin ds z2 q
      exact ⟨f, z3, loop_cons hk e1 e2 e3, q3⟩
    | ct =>
      obtain ⟨f, z3, e3, q3⟩ := Dz.loop hk I step fin ds z2 q
      exact ⟨f, z3, loop_cons hk e1 e2 e3, q3⟩
    | bk => exact ⟨_, _, loop_cons hk e1 e2 rfl, q⟩
    | rt d => exact ⟨_, _, loop_cons hk e1 e2 rfl, q⟩
theorem Dz.for_ {mi : M It} {it : It} {g : G} (h : mi z = some (it, z1)) (hk : it.chk = none) (I : List D → Z → Prop) (h0 : I it.items z1) (step : ∀ d ds z, I (d :: ds) z → ∃ z1, g.run d z = some z1 ∧ Dz b z1 (turn (I ds) Φ)) (fin : ∀ z, I [] z → Φ .nx z) : Dz (C.for_ mi g b) z Φ := by
  obtain ⟨f, z2, e, q⟩ := Dz.loop hk I step fin it.items z1 h0
  exact ⟨f, z2, cs_for h e, q⟩
theorem rg_len (a : Int) (n : Nat) : (I.irng a n).length = n := by unfold I.irng; rw [List.length_map, List.length_range]
theorem rg_get {a : Int} {n k : Nat} (h : k < n) : (I.irng a n)[k]? = some (.int (a + k)) := by
  unfold I.irng
  rw [List.getElem?_map, List.getElem?_range h]
  rfl
theorem drop_cons {α : Type} {l ds : List α} {d : α} {k : Nat} (h : l.drop k = d :: ds) : k < l.length ∧ l[k]? = some d ∧ ds = l.drop (k + 1) := by
  have h1 : k < l.length := by
    have := congrArg List.length h
    rw [List.length_drop, List.length_cons] at this
    omega
  rw [List.drop_eq_getElem_cons h1] at h
  injection h with h2 h3
  exact ⟨h1, by rw [List.getElem?_eq_getElem h1, h2], h3.symm⟩
/-- for over a range, by an invariant over the turns made -/
theorem Dz.rng {mi : M It} {g : G} {a : Int} {n : Nat} (h : mi z = some (⟨I.irng a n, none⟩, z1)) (I : Nat → Z → Prop) (h0 : I 0 z1) (step : ∀ k z, k < n → I k z → ∃ z1, g.run (.int (a + k)) z = some z1 ∧ Dz b z1 (turn (I (k + 1)) Φ)) (fin : ∀ z, I n z → Φ .nx z) : Dz (C.for_ mi g b) z Φ := by
  refine Dz.for_ h rfl (fun ds z => ∃ k, k ≤ n ∧ ds = (Mi.I.irng a n).drop k ∧ I k z) ⟨0, Nat.zero_le _, rfl, h0⟩ ?_ ?_
  · rintro d ds z ⟨k, hk, hd, hI⟩
    obtain ⟨h1, h2, h3⟩ := drop_cons hd.symm
    rw [rg_len] at h1
    rw [rg_get h1] at h2
    cases h2
    obtain ⟨z2, e, q⟩ := step k z h1 hI
    exact ⟨z2, e, q.imp fun f z3 r => by
      cases f with
      | nx => exact ⟨k + 1, h1, h3, r⟩
      | ct => exact ⟨k + 1, h1, h3, r⟩
      | bk => exact r
      | rt d => exact r⟩
  · rintro z ⟨k, hk, hd, hI⟩
    have : n ≤ k := by
      have := congrArg List.length hd
      rw [List.length_drop, rg_len] at this
      simp at this
      omega
    have : k = n := by omega
    subst this
    exact fin z hI
/-- for over a list, by an invariant over what is done and what is left -/
theorem Dz.each {mi : M It} {g : G} {xs : List D} (h : mi z = some (⟨xs, none⟩, z1)) (I : Nat → Z → Prop) (h0 : I 0 z1) (step : ∀ k d z, xs[k]? = some d → I k z → ∃ z1, g.run d z = some z1 ∧ Dz b z1 (turn (I (k + 1)) Φ)) (fin : ∀ z, I xs.length z → Φ .nx z) : Dz (C.for_ mi g b) z Φ := by
  refine Dz.for_ h rfl (fun ds z => ∃ k, k ≤ xs.length ∧ ds = xs.drop k ∧ I k z) ⟨0, Nat.zero_le _, rfl, h0⟩ ?_ ?_
  · rintro d ds z ⟨k, hk, hd, hI⟩
    obtain ⟨h1, h2, h3⟩ := drop_cons hd.symm
    obtain ⟨z2, e, q⟩ := step k d z h2 hI
    exact ⟨z2, e, q.imp fun f z3 r => by
      cases f with
      | nx => exact ⟨k + 1, h1, h3, r⟩
      | ct => exact ⟨k + 1, h1, h3, r⟩
      | bk => exact r
      | rt d => exact r⟩
  · rintro z ⟨k, hk, hd, hI⟩
    have : xs.length ≤ k := by
      have := congrArg List.length hd
      rw [List.length_drop] at this
      simp at this
      omega
    have : k = xs.length := by omega
    subst this
    exact fin z hI
/-- while, by a measure -/
theorem Dz.whl {t : M Bool} (I : Nat → Z → Prop) (step : ∀ n z, I n z → ∃ p z1, t z = some (p, z1) ∧ (p = true → Dz b z1 (turn (fun z2 => ∃ m, m < n ∧ I m z2) Φ)) ∧ (p = false → Φ .nx z1)) : ∀ (n : Nat) (z : Z), I n z → Dz (C.whl t b) z Φ := by
  intro n
  induction n using Nat.strongRecOn with
  | ind n ih =>
    intro z h
    obtain ⟨p, z1, e, hT, hF⟩ := step n z h
    cases p with
    | false => exact ⟨_, _, whl_f e, hF rfl⟩
    | true =>
      obtain ⟨f, z2, e2, q⟩ := hT rfl
      cases f with
      | nx =>
        obtain ⟨m, hm, q⟩ := q
        obtain ⟨f, z3, e3, q3⟩ := ih m hm z2 q
        exact ⟨f, z3, whl_t e e2 e3, q3⟩
      | ct =>
        obtain ⟨m, hm, q⟩ := q
        obtain ⟨f, z3, e3, q3⟩ := ih m hm z2 q
        refine ⟨f, z3, ?_, q3⟩
        rw [C.whl, e]
        dsimp only
        rw [e2]
        exact e3
      | bk => exact ⟨_, _, whl_bk e e2, q⟩
      | rt d => exact ⟨_, _, whl_rt e e2, q⟩
/-- a def by its body -/
theorem Dz.fn {n k : Nat} {ds h : List D} {R : D → List D → Prop} (hl : ds.length = k) (hb : Dz c ⟨slots n ds, h⟩ fun f z => match f with | .nx => R .non z.h | .rt d => R d z.h | _ => False) : ∃ d h', fn n k c ds h = some (d, h') ∧ R d h' := by
  obtain ⟨f, z', e, q⟩ := hb
  cases f with
  | nx => exact ⟨.non, z'.h, by unfold Mi.fn; rw [if_pos hl, e], q⟩
  | rt d => exact ⟨d, z'.h, by unfold Mi.fn; rw [if_pos hl, e], q⟩
  | bk => exact q.elim
  | ct => exact q.elim
theorem Dz.ends {d : D} (h : Dz c z fun f _ => f = .rt d) : Mi.Ends c z d := by
  obtain ⟨f, z1, e, rfl⟩ := h
  exact ⟨z1, e⟩
theorem Dz.end_ {d : D} (h : Mi.Ends c z d) (q : ∀ z1, Φ (.rt d) z1) : Dz c z Φ := by
  obtain ⟨z1, e⟩ := h
  exact ⟨_, _, e, q z1⟩
end
end Mi

set_option Elab.async false
set_option linter.all false
set_option maxRecDepth 100000
set_option maxHeartbeats 2000000
/-! Mi, part S: the common draws from a stream of small numbers. -/
namespace Mi
open PySem L2
local macro_rules | `(tactic| wtm_at "leaf") => `(tactic| first
  | ((with_reducible apply lf_cont); rfl)
  | (with_reducible exact atI_zero)
  | ((with_reducible apply lf_dcont); rfl)
  | ((with_reducible apply lf_dcS); rfl)
  | ((with_reducible apply lf_dgetC); rfl)
  | ((with_reducible apply lf_keyD); rfl)
  | ((with_reducible apply lf_isDict); rfl)
  | ((with_reducible apply lf_dkeys); rfl)
  | ((with_reducible apply lf_atI); first | rfl | exact atI_zero)
  | ((with_reducible apply lf_get); rfl)
  | ((with_reducible apply lf_pure); rfl)
  | ((with_reducible apply lf_setAt); rfl)
  | ((with_reducible apply lf_tru); rfl)
  | ((with_reducible apply lf_lt); exact Nat.le_of_ble_eq_true rfl)
  | ((with_reducible apply lf_pos); first | assumption | decide | omega)
  | ((with_reducible apply lf_le); decide)
  | ((with_reducible apply lf_isNm); rfl)
  | ((with_reducible apply lf_notNm); rfl)
  | ((with_reducible apply lf_noScr); rfl)
  | ((with_reducible apply lf_noKt); rfl)
  | (with_reducible exact eqP_int)
  | (with_reducible exact lf_abs)
  | (with_reducible exact lf_int1)
  | (with_reducible exact lf_max2)
  | (with_reducible exact lf_min2)
  | (with_reducible apply lf_len)
  | (with_reducible apply lf_tuple)
  | (with_reducible apply lf_isi)
  | (with_reducible exact eqP_t3)
  | (with_reducible exact eqP_bl)
  | (with_reducible exact eqP_t2)
  | (with_reducible exact kb_tt)
  | (with_reducible exact kb_bb)
  | (with_reducible exact kb_ii)
  | (with_reducible exact kb_it)
  | (with_reducible exact kb_ib)
  | (with_reducible exact kb_bi)
  | (with_reducible exact kb_ll)
  | (with_reducible exact kb_ss)
  | ((with_reducible apply lf_isiK); with_unfolding_all decide)
  | ((with_reducible apply lf_ty); rfl)
  | ((with_reducible apply lf_bd); exact ⟨by decide, by decide⟩)
  | ((with_reducible apply lf_allO); rfl)
  | ((with_reducible apply lf_app); first | ((repeat (first | (with_reducible exact la_nil) | (with_reducible apply la_cons))); done) | rfl)
  | ((with_reducible apply lf_set); first | ((repeat (first | (with_reducible exact sl_z) | (with_reducible apply sl_s))); done) | rfl)
  | ((with_reducible apply lf_slots); first | ((repeat (first | (with_reducible exact se_nil) | (with_reducible apply se_cons) | (with_reducible apply ss_cons) | (with_reducible apply ss_nil))); done) | rfl)
  | (with_reducible exact sw_nil)
  | (with_reducible apply sw_cons)
  | ((with_reducible apply lf_wipe); rfl)
  | (with_reducible exact sr_nil)
  | (with_reducible apply sr_cons)
  | ((with_reducible apply lf_rest); rfl)
  | (with_reducible apply gr_nm)
  | (with_reducible exact gr_nil)
  | (with_reducible apply gr_cons)
  | (with_reducible apply gr_tp)
  | (with_reducible apply gr_tl)
  | ((with_reducible apply lf_run); first | (simp only [G.nm, G.tp, G.tl, G.runs, List.set_cons_succ, List.set_cons_zero]; done) | rfl)
  | ((with_reducible apply lf_len0); rfl)
  )
local macro_rules | `(tactic| wtm_at "sm") => `(tactic| first
  | ((with_reducible apply lf_smn); with_reducible assumption)
  | (with_reducible exact Smn.nat (by decide))
  | (with_reducible apply Smn.mul)
  | (with_reducible apply Smn.add)
  | (with_reducible apply Smn.sub)
  | (with_reducible apply Smn.neg)
  | (with_reducible apply Smn.ite)
  | (with_reducible apply Smn.div _ (by omega))
  | (with_reducible apply Smn.mod _ (by omega))
  | ((with_reducible refine Smn.of ?_); omega))
local macro_rules | `(tactic| wtm_at "nl") => `(tactic| first
  | (with_reducible apply ev_rng1)
  | (with_reducible apply ev_rng2)
  | (with_reducible apply nl_nil)
  | ((with_reducible apply lf_nl); first | apply nl_tN | apply nl_nil)
  | ((with_reducible apply lf_ok); rfl)
  | ((with_reducible apply lf_itm); rfl))
local macro_rules | `(tactic| wtm_at "e1") => `(tactic| first
  | (with_reducible intro _)
  | (with_reducible exact ev_c)
  | (with_reducible exact ev_args0)
  | (with_reducible exact ev_part0)
  | ((with_reducible apply ev_var); rfl)
  | ((with_reducible apply ev_varO); rfl)
  | (with_reducible apply ev_ix)
  | (with_reducible apply ev_dix)
  | (with_reducible apply ev_din)
  | (with_reducible apply ev_dnotIn)
  | (with_reducible apply ev_get1)
  | (with_reducible apply ev_get2)
  | (with_reducible apply ev_shrN)
  | (with_reducible apply ev_frzD)
  | (with_reducible exact ev_pairs0)
  | (with_reducible apply ev_pairs)
  | (with_reducible apply ev_dispK)
  | (with_reducible apply ev_sortedD)
  | (with_reducible apply ev_rev)
  | (with_reducible apply ev_cutT)
  | (with_reducible apply ev_catT)
  | (with_reducible apply ev_seqK)
  | (with_reducible apply ev_add)
  | (with_reducible apply ev_sub)
  | (with_reducible apply ev_mul)
  | (with_reducible apply ev_div)
  | (with_reducible apply ev_mod)
  | (with_reducible apply ev_neg)
  | (with_reducible apply ev_lt)
  | (with_reducible apply ev_le)
  | (with_reducible apply ev_gt)
  | (with_reducible apply ev_ge)
  | (with_reducible apply ev_eq)
  | (with_reducible apply ev_ne)
  | (with_reducible apply ev_isN)
  | (with_reducible apply ev_notN)
  | (with_reducible apply ev_args)
  | (with_reducible apply ev_tup)
  | (with_reducible apply ev_frz)
  | (with_reducible apply ev_shr)
  | (with_reducible apply ev_disp)
  | (with_reducible apply ev_blt1)
  | (with_reducible apply ev_blt2)
  | (with_reducible apply ev_un)
  | (with_reducible apply ev_and)
  | (with_reducible apply ev_or)
  | (with_reducible apply ev_not)
  | (with_reducible apply tv)
  | (with_reducible apply tt_tru)
  | (with_reducible apply tt_and)
  | (with_reducible apply tt_or)
  | (with_reducible apply tt_not)
  | (with_reducible apply ev_ofSeq)
  | (with_reducible apply ev_part)
  | (with_reducible apply ev_slice)
  | (with_reducible apply ev_compN)
  | (with_reducible exact ev_true)
  | wtm_at "nl"
  | (with_reducible apply ev_chain)
  | (with_reducible apply ev_call)
  | wtm_at "call"
  | wtm_at "leaf"
  | wtm_at "sm")
local macro_rules | `(tactic| wtm_at "ev") => `(tactic| repeat' wtm_at "e1")
local macro_rules | `(tactic| wtm_at "dec") => `(tactic| decide)
local macro_rules | `(tactic| wtm_at "s1") => `(tactic| first
  | (with_reducible exact cs_skip)
  | (with_reducible apply cs_setN)
  | (with_reducible apply cs_dputO)
  | (with_reducible apply cs_ownD)
  | (with_reducible apply cs_frzD)
  | (with_reducible apply cs_retD)
  | (with_reducible apply cs_ownN)
  | (with_reducible apply cs_frzN)
  | (with_reducible apply cs_augN)
  | (with_reducible apply ev_chgN)
  | (with_reducible apply cs_setIxN)
  | (with_reducible apply cs_drop)
  | (with_reducible apply cs_asg)
  | (with_reducible apply cs_ret)
  | wtm_at "e1")
local macro_rules | `(tactic| wtm_at "st") => `(tactic| repeat' wtm_at "s1")
local macro_rules | `(tactic| wtm_at "dz") => `(tactic| (with_reducible apply Dz.nx; · wtm_at "st"))
local macro_rules | `(tactic| wtm_at "di") => `(tactic| (with_reducible apply Dz.ite; · wtm_at "ev"))

/-- a row: how far it is read, what stands in it -/
structure TS where
  pos : Int
  cells : List Int
  ok : 1 ≤ pos
def tkH (t : TS) : List D := [.lst (D.int t.pos :: t.cells.map D.int)]
def tkT (t : TS) (tl : List D) : List D := .lst (D.int t.pos :: t.cells.map D.int) :: tl
def takeV (t : TS) (many : Int) : Int := if t.pos < t.cells.length + 1 then t.cells.getD (t.pos - 1).toNat 0 % many else 0
def takeS (t : TS) : TS := if t.pos < t.cells.length + 1 then ⟨t.pos + 1, t.cells, by have := t.ok; omega⟩ else t
theorem takeV_nn (t : TS) {many : Int} (h : 0 < many) : 0 ≤ takeV t many := by
  unfold takeV
  split
  · exact Int.emod_nonneg _ (by omega)
  · decide
theorem takeV_lt (t : TS) {many : Int} (h : 0 < many) : takeV t many < many := by
  unfold takeV
  split
  · exact Int.emod_lt_of_pos _ h
  · exact h
namespace St
noncomputable section
def lp_law_stream1 : C := (C.seq (C.drop (E.chg U.append (E.var 1) [(E.op O.mod (E.var 3) (E.c (.int 59)))])) (C.seq (C.set 3 (E.op O.div (E.var 3) (E.c (.int 59)))) (C.ite (T.val (E.op O.eq (E.var 3) (E.c (.int 0)))) C.brk C.skip)))
def lp_law_stream2 : C := (C.seq (C.set 3 (E.blt F.abs [(E.blt F.int1 [(E.var 2)])])) (C.for_ (I.rng1 (E.c (.int 60))) (G.nm 4) lp_law_stream1))
def lp_law_stream3 : C := (C.set 5 (E.op O.mod (E.blt F.int1 [(E.op O.add (E.op O.add (E.op O.mul (E.var 5) (E.c (.int 131))) (E.var 2)) (E.c (.int 17)))]) (E.c (.int 1000003))))
def lp_law_stream4 : C := (C.seq (C.set 5 (E.op O.mod (E.blt F.int1 [(E.op O.add (E.op O.add (E.op O.mul (E.var 5) (E.c (.int 48271))) (E.op O.mul (E.var 4) (E.c (.int 69621)))) (E.c (.int 11)))]) (E.c (.int 2147483647)))) (C.drop (E.chg U.append (E.var 1) [(E.op O.mod (E.op O.div (E.var 5) (E.c (.int 1009))) (E.c (.int 59)))])))
@[reducible] def st_law_stream_5 : C := (C.for_ (I.rng1 (E.c (.int 150))) (G.nm 4) lp_law_stream4)
@[reducible] def st_law_stream_4 : C := (C.for_ (I.seq (E.frz (N.slice (E.var 0) none (some (E.c (.int 63)))))) (G.nm 2) lp_law_stream3)
@[reducible] def st_law_stream_2 : C := (C.for_ (I.seq (E.frz (N.slice (E.var 0) none (some (E.c (.int 63)))))) (G.nm 2) lp_law_stream2)
@[reducible] def st_law_stream_1 : C := (C.own 1 (N.disp [(E.c (.int 1))]))
def b_law_stream : C := (C.seq st_law_stream_1 (C.seq st_law_stream_2 (C.seq (C.set 5 (E.c (.int 7))) (C.seq st_law_stream_4 (C.seq st_law_stream_5 (C.retS (E.var 1)))))))
def m_law_stream : Fn := fn 6 1 b_law_stream
@[reducible] def st_law_take_1 : C := (C.ite (T.val (E.op O.lt (E.op O.ix (E.var 0) (E.c (.int 0))) (E.blt F.len [(E.var 0)]))) (C.seq (C.setIx (E.var 0) (E.c (.int 0)) (E.op O.add (E.op O.ix (E.var 0) (E.c (.int 0))) (E.c (.int 1)))) (C.ret (E.op O.mod (E.blt F.int1 [(E.op O.ix (E.var 0) (E.op O.sub (E.op O.ix (E.var 0) (E.c (.int 0))) (E.c (.int 1))))]) (E.var 1)))) C.skip)
def b_law_take : C := (C.seq st_law_take_1 (C.ret (E.c (.int 0))))
def m_law_take : Fn := fn 2 2 b_law_take
def lp_law1 : C := (C.seq (C.set 4 (E.op O.ix (E.var 2) (E.un O.neg (E.c (.int 1))))) (C.seq (C.set 5 (E.op O.ix (E.frz (N.disp [(E.tup [(E.c (.int 1)), (E.c (.int 0))]), (E.tup [(E.op O.sub (E.call m_law_take [(E.var 1), (E.c (.int 59))]) (E.c (.int 29))), (E.c (.int 0))]), (E.tup [(E.call m_law_take [(E.var 1), (E.c (.int 9))]), (E.op O.sub (E.call m_law_take [(E.var 1), (E.c (.int 59))]) (E.c (.int 29)))]), (E.tup [(E.c (.int 3)), (E.c (.int 3))])])) (E.call m_law_take [(E.var 1), (E.c (.int 4))]))) (C.seq (C.ite (T.val (E.op O.eq (E.var 5) (E.tup [(E.c (.int 0)), (E.c (.int 0))]))) (C.set 5 (E.tup [(E.c (.int 0)), (E.c (.int 1))])) C.skip) (C.drop (E.chg U.append (E.var 2) [(E.tup [(E.op O.add (E.op O.ix (E.var 4) (E.c (.int 0))) (E.op O.ix (E.var 5) (E.c (.int 0)))), (E.op O.add (E.op O.ix (E.var 4) (E.c (.int 1))) (E.op O.ix (E.var 5) (E.c (.int 1))))])])))))
@[reducible] def st_law_5 : C := (C.set 7 (E.op O.add (E.c (.int 1)) (E.call m_law_take [(E.var 1), (E.c (.int 40))])))
@[reducible] def st_law_3 : C := (C.for_ (I.rng1 (E.call m_law_take [(E.var 1), (E.c (.int 8))])) (G.nm 3) lp_law1)
@[reducible] def st_law_2 : C := (C.own 2 (N.disp [(E.tup [(E.call m_law_take [(E.var 1), (E.c (.int 59))]), (E.call m_law_take [(E.var 1), (E.c (.int 59))])])]))
@[reducible] def st_law_1 : C := (C.set 1 (E.call m_law_stream [(E.var 0)]))
end
theorem take_evT (tl : List D) (t : TS) {many : Int} (h : 0 < many) : m_law_take [.ref 0, .int many] (tkT t tl) = some (.int (takeV t many), tkT (takeS t) tl) := by
  have hp := t.ok
  have hl : ((D.int t.pos :: t.cells.map D.int).length : Int) = t.cells.length + 1 := by simp
  have tst : (T.val (E.op O.lt (E.op O.ix (E.var 0) (E.c (.int 0))) (E.blt F.len [(E.var 0)]))) ⟨[.val (.ref 0), .val (.int many)], tkT t tl⟩ = some (decide (t.pos < t.cells.length + 1), ⟨[.val (.ref 0), .val (.int many)], tkT t tl⟩) := by
    rw [← hl]
    exact tv (ev_lt (ev_ix (ev_var rfl) ev_c rfl atI_zero) (ev_blt1 (ev_var rfl) (lf_len rfl)))
  unfold m_law_take
  apply fn_rtH rfl
  unfold b_law_take st_law_take_1
  show (C.seq _ _) ⟨[.val (.ref 0), .val (.int many)], tkT t tl⟩ = _
  unfold takeV takeS
  by_cases c : t.pos < t.cells.length + 1
  · rw [decide_eq_true c] at tst
    rw [if_pos c, if_pos c]
    refine cs_rt (cs_iteT tst ?_)
    refine cs_nx (cs_setIxR (ds := D.int t.pos :: t.cells.map D.int) (ds' := D.int (t.pos + 1) :: t.cells.map D.int) (ev_add (ev_ix (ev_var rfl) ev_c rfl atI_zero) ev_c) (ev_var rfl) ev_c rfl rfl setAt0) ?_
    have e1 : atI (D.int (t.pos + 1) :: t.cells.map D.int) (t.pos + 1 - 1) = some (.int (t.cells.getD (t.pos - 1).toNat 0)) := by
      obtain ⟨n, hn⟩ : ∃ n : Nat, t.pos = n + 1 := ⟨(t.pos - 1).toNat, by omega⟩
      have hn2 : n < t.cells.length := by omega
      have h1 : t.pos + 1 - 1 = ((n + 1 : Nat) : Int) := by omega
      have h2 : (t.pos - 1).toNat = n := by omega
      rw [h1, h2]
      refine atI_nat ?_
      rw [List.getElem?_cons_succ, List.getElem?_map, List.getD_eq_getElem?_getD, List.getElem?_eq_getElem hn2]
      rfl
    exact cs_ret (ev_mod (ev_blt1 (ev_ix (ev_var rfl) (ev_sub (ev_ix (ev_var rfl) ev_c rfl atI_zero) ev_c) rfl e1) lf_int1) (ev_var rfl) h) rfl
  · rw [decide_eq_false c] at tst
    rw [if_neg c, if_neg c]
    exact cs_nx (cs_iteF tst cs_skip) (cs_ret ev_c rfl)
theorem take_ev (t : TS) {many : Int} (h : 0 < many) : m_law_take [.ref 0, .int many] (tkH t) = some (.int (takeV t many), tkH (takeS t)) := take_evT [] t h
def sS (S : D) (cs : List Int) (X2 X3 X4 X5 : Sl) : Z := ⟨[.val S, .own (.lst (D.int 1 :: cs.map D.int)), X2, X3, X4, X5], []⟩
theorem app_ev {S : D} {cs : List Int} {X2 X3 X4 X5 : Sl} {m : M D} {i : Int} (hm : m (sS S cs X2 X3 X4 X5) = some (.int i, sS S cs X2 X3 X4 X5)) (hl : cs.length < 10000) : (C.drop (E.chg U.append (E.var 1) [m])) (sS S cs X2 X3 X4 X5) = some (.nx, sS S (cs ++ [i]) X2 X3 X4 X5) := by
  have e : U.append (D.int 1 :: cs.map D.int) [.int i] = some (.non, D.int 1 :: (cs ++ [i]).map D.int) := by
    unfold U.append
    dsimp only
    rw [if_pos (by rw [List.length_cons, List.length_map]; exact Nat.lt_of_lt_of_le (Nat.succ_lt_succ hl) (by decide))]
    simp
  exact cs_drop (ev_chgN (n := 1) (ev_varO rfl) rfl (ev_args hm ev_args0 rfl) rfl e rfl)
theorem inner_ev (S : D) (cs : List Int) (X2 X4 X5 : Sl) (left : Int) (B : Nat) (hB : B ≤ 9000) (hc : cs.length + 60 ≤ B) : Dz (C.for_ (I.rng1 (E.c (.int 60))) (G.nm 4) lp_law_stream1) (sS S cs X2 (.val (.int left)) X4 X5) fun f z => f = .nx ∧ ∃ cs2 X3 X4, cs2.length ≤ B ∧ z = sS S cs2 X2 X3 X4 X5 := by
  refine Dz.for_ (ev_rng1 ev_c ⟨by decide, by decide⟩) rfl (fun ds z => ∃ cs2 left X4, cs2.length + ds.length ≤ B ∧ z = sS S cs2 X2 (.val (.int left)) X4 X5) ⟨cs, left, X4, by simpa [I.irng] using hc, rfl⟩ ?_ ?_
  · rintro d ds z ⟨cs2, left, X4, hl, rfl⟩
    rw [List.length_cons] at hl
    refine ⟨sS S cs2 X2 (.val (.int left)) (.val d) X5, rfl, ?_⟩
    unfold lp_law_stream1
    refine Dz.nx (app_ev (i := left % 59) (ev_mod (ev_var rfl) ev_c (by decide)) (by omega)) ?_
    refine Dz.nx (z1 := sS S (cs2 ++ [left % 59]) X2 (.val (.int (left / 59))) (.val d) X5) (cs_set (ev_div (ev_var rfl) ev_c (by decide) (Smn.nat (by decide)) (by decide)) rfl) ?_
    have hl2 : (cs2 ++ [left % 59]).length + ds.length ≤ B := by rw [List.length_append, List.length_singleton]; omega
    refine Dz.ite (tv (ev_eqI (ev_var rfl) ev_c)) (fun _ => Dz.brk ?_) fun _ => Dz.skip ?_
    · exact ⟨rfl, _, _, _, by omega, rfl⟩
    · exact ⟨_, _, _, hl2, rfl⟩
  · rintro z ⟨cs2, left, X4, hl, rfl⟩
    exact ⟨rfl, _, _, _, by simpa using hl, rfl⟩
theorem cut_len {ns : List Int} (hl : ns.length ≤ 63) : N.cutL (ns.map D.int) none (some 63) = ns.map D.int := by
  have e : HT.sIx (ns.map D.int).length (ns.map D.int).length (some 63) = (ns.map D.int).length := by
    rw [show (63 : Int) = ((63 : Nat) : Int) from rfl, HT.sIx_nat, List.length_map]
    exact Nat.min_eq_right hl
  unfold N.cutL
  rw [e]
  show ((ns.map D.int).drop 0).take ((ns.map D.int).length - 0) = _
  rw [List.drop_zero, Nat.sub_zero, List.take_length]
theorem stream_ev (ns : List Int) (hl : ns.length ≤ 63) : ∃ t : TS, m_law_stream [.scr (ns.map D.int)] [] = some (.ref 0, tkH t) := by
  have src : ∀ {X1 X2 X3 X4 X5 : Sl}, (I.seq (E.frz (N.slice (E.var 0) none (some (E.c (.int 63)))))) ⟨[.val (.scr (ns.map D.int)), X1, X2, X3, X4, X5], []⟩ = some (⟨ns.map D.int, none⟩, ⟨[.val (.scr (ns.map D.int)), X1, X2, X3, X4, X5], []⟩) := by
    intro X1 X2 X3 X4 X5
    refine ev_seq (x := .lst (ns.map D.int)) (ev_frz ?_) rfl
    have e := ev_slice (z := ⟨[.val (.scr (ns.map D.int)), X1, X2, X3, X4, X5], []⟩) (lo := none) (hi := some (E.c (.int 63))) (ds := ns.map D.int) (ev_var (n := 0) rfl) ev_part0 (ev_part ev_c) rfl
    rw [cut_len hl] at e
    exact e
  have body : Dz b_law_stream ⟨slots 6 [.scr (ns.map D.int)], []⟩ fun f z => match f with | .nx => False | .rt d => ∃ t : TS, d = .ref 0 ∧ z.h = tkH t | _ => False := by
    unfold b_law_stream
    refine Dz.nx (z1 := sS (.scr (ns.map D.int)) [] .no .no .no .no) (cs_own (ev_disp (ev_args ev_c ev_args0 rfl)) (Nat.le_of_ble_eq_true rfl)) ?_
    refine Dz.thn (R := fun z => ∃ cs X2 X3 X4, cs.length ≤ 3780 ∧ z = sS (.scr (ns.map D.int)) cs X2 X3 X4 .no) ?_ ?_
    · refine Dz.for_ src rfl (fun ds z => (∀ d ∈ ds, ∃ i, d = D.int i) ∧ ∃ cs X2 X3 X4, cs.length + 60 * ds.length ≤ 3780 ∧ z = sS (.scr (ns.map D.int)) cs X2 X3 X4 .no) ⟨fun d hd => ?_, [], _, _, _, ?_, rfl⟩ ?_ ?_
      · obtain ⟨i, _, rfl⟩ := List.mem_map.mp hd
        exact ⟨i, rfl⟩
      · simp only [List.length_nil, List.length_map]; omega
      · rintro d ds z ⟨hd, cs, X2, X3, X4, hc, rfl⟩
        obtain ⟨i, rfl⟩ := hd d List.mem_cons_self
        rw [List.length_cons] at hc
        refine ⟨sS (.scr (ns.map D.int)) cs (.val (.int i)) X3 X4 .no, rfl, ?_⟩
        unfold lp_law_stream2
        refine Dz.nx (cs_set (ev_blt1 (ev_blt1 (ev_var rfl) lf_int1) lf_abs) rfl) ?_
        refine (inner_ev (.scr (ns.map D.int)) cs (.val (.int i)) X4 .no _ (3780 - 60 * ds.length) (by omega) (by omega)).imp ?_
        rintro f z ⟨rfl, cs2, X3, X4, h2, rfl⟩
        exact ⟨fun d h => hd d (List.mem_cons_of_mem _ h), cs2, _, _, _, by omega, rfl⟩
      · rintro z ⟨_, cs, X2, X3, X4, hc, rfl⟩
        exact ⟨rfl, cs, X2, X3, X4, by simpa using hc, rfl⟩
    · rintro z ⟨cs, X2, X3, X4, hc, rfl⟩
      refine Dz.nx (z1 := sS (.scr (ns.map D.int)) cs X2 X3 X4 (.val (.int 7))) (cs_set ev_c rfl) ?_
      refine Dz.thn (R := fun z => ∃ X2 seed, (0 ≤ seed ∧ seed ≤ 2147483647) ∧ z = sS (.scr (ns.map D.int)) cs X2 X3 X4 (.val (.int seed))) ?_ ?_
      · refine Dz.for_ src rfl (fun ds z => (∀ d ∈ ds, ∃ i, d = D.int i) ∧ ∃ X2 seed, (0 ≤ seed ∧ seed ≤ 2147483647) ∧ z = sS (.scr (ns.map D.int)) cs X2 X3 X4 (.val (.int seed))) ⟨fun d hd => ?_, _, 7, by decide, rfl⟩ ?_ ?_
        · obtain ⟨i, _, rfl⟩ := List.mem_map.mp hd
          exact ⟨i, rfl⟩
        · rintro d ds z ⟨hd, X2, seed, hs, rfl⟩
          obtain ⟨i, rfl⟩ := hd d List.mem_cons_self
          have h1 : Smn 64 seed := Smn.of (by omega)
          refine ⟨sS (.scr (ns.map D.int)) cs (.val (.int i)) X3 X4 (.val (.int seed)), rfl, ?_⟩
          unfold lp_law_stream3
          refine Dz.of (cs_set (ev_mod (ev_blt1 (ev_add (ev_add (ev_mul (ev_var rfl) ev_c h1 (Smn.nat (by decide)) (by decide) (by decide)) (ev_var rfl)) ev_c) lf_int1) ev_c (by decide)) rfl) ?_
          exact ⟨fun d h => hd d (List.mem_cons_of_mem _ h), _, _, by omega, rfl⟩
        · rintro z ⟨_, X2, seed, hs, rfl⟩
          exact ⟨rfl, X2, seed, hs, rfl⟩
      · rintro z ⟨X2, seed, hs, rfl⟩
        refine Dz.thn (R := fun z => ∃ cs X4 X5, z = sS (.scr (ns.map D.int)) cs X2 X3 X4 X5) ?_ ?_
        · refine Dz.for_ (ev_rng1 ev_c ⟨by decide, by decide⟩) rfl (fun ds z => (∀ d ∈ ds, ∃ i : Int, (0 ≤ i ∧ i ≤ 150) ∧ d = D.int i) ∧ ∃ cs X4 seed, (0 ≤ seed ∧ seed ≤ 2147483647) ∧ cs.length + ds.length ≤ 4000 ∧ z = sS (.scr (ns.map D.int)) cs X2 X3 X4 (.val (.int seed))) ⟨fun d hd => ?_, cs, _, seed, hs, ?_, rfl⟩ ?_ ?_
          · unfold I.irng at hd
            obtain ⟨n, hn, rfl⟩ := List.mem_map.mp hd
            have := List.mem_range.mp hn
            exact ⟨_, by simp at this ⊢; omega, rfl⟩
          · simp [I.irng]; omega
          · rintro d ds z ⟨hd, cs, X4, seed, hs, hc, rfl⟩
            obtain ⟨i, hi, rfl⟩ := hd d List.mem_cons_self
            rw [List.length_cons] at hc
            have h1 : Smn 64 seed := Smn.of (by omega)
            have h2 : Smn 64 i := Smn.of (by omega)
            refine ⟨sS (.scr (ns.map D.int)) cs X2 X3 (.val (.int i)) (.val (.int seed)), rfl, ?_⟩
            unfold lp_law_stream4
            refine Dz.nx (z1 := sS (.scr (ns.map D.int)) cs X2 X3 (.val (.int i)) (.val (.int ((seed * 48271 + i * 69621 + 11) % 2147483647)))) (cs_set (ev_mod (ev_blt1 (ev_add (ev_add (ev_mul (ev_var rfl) ev_c h1 (Smn.nat (by decide)) (by decide) (by decide)) (ev_mul (ev_var rfl) ev_c h2 (Smn.nat (by decide)) (by decide) (by decide))) ev_c) lf_int1) ev_c (by decide)) rfl) ?_
            refine Dz.of (app_ev (i := (seed * 48271 + i * 69621 + 11) % 2147483647 / 1009 % 59) (ev_mod (ev_div (ev_var rfl) ev_c (by decide) (Smn.nat (by decide)) (by decide)) ev_c (by decide)) (by omega)) ?_
            exact ⟨fun d h => hd d (List.mem_cons_of_mem _ h), _, _, _, by omega, by rw [List.length_append, List.length_singleton]; omega, rfl⟩
          · rintro z ⟨_, cs, X4, seed, hs, hc, rfl⟩
            exact ⟨rfl, cs, X4, _, rfl⟩
        · rintro z ⟨cs, X4, X5, rfl⟩
          exact Dz.of (cs_retS (n := 1) (ev_varO rfl) rfl) ⟨⟨1, cs, by decide⟩, rfl, rfl⟩
  obtain ⟨d, h2, e, t, rfl, ht⟩ := Dz.fn (n := 6) (k := 1) (R := fun d h => ∃ t : TS, d = .ref 0 ∧ h = tkH t) rfl (body.imp fun f z q => by cases f <;> first | exact q.elim | exact q)
  exact ⟨t, by unfold m_law_stream; rw [e, ht]⟩
end St
end Mi

set_option Elab.async false
set_option linter.all false
set_option maxRecDepth 100000
/-! Mi, part R: data that can be shown. -/
namespace Mi
open PySem L2
/-- d can be shown: its depth, its weight -/
def Rep (d : D) (dep wt : Nat) : Prop := ∃ p, O.toP d = some p ∧ p.showable = true ∧ p.hasDict = false ∧ p.depth ≤ dep ∧ p.leavesShort 12 = true ∧ p.weight ≤ wt
def RepAll (ds : List D) (dep wt : Nat) : Prop := ∃ ps, O.toPs ds = some ps ∧ ps.length = ds.length ∧ PyData.showableAll ps = true ∧ PyData.hasDictAll ps = false ∧ PyData.depthAll ps ≤ dep ∧ PyData.leavesShortAll 12 ps = true ∧ PyData.weightAll ps ≤ ds.length * (wt + 1)
theorem Rep.mono {d : D} {a b w v : Nat} (h : Rep d a w) (h1 : a ≤ b) (h2 : w ≤ v) : Rep d b v := by
  obtain ⟨p, e, h3, h4, h5, h6, h7⟩ := h
  exact ⟨p, e, h3, h4, by omega, h6, by omega⟩
theorem Rep.int {i : Int} (h : -1000000000 ≤ i ∧ i ≤ 1000000000) : Rep (.int i) 0 40 := by
  have h1 : i.natAbs < 10 ^ 10 := by omega
  refine ⟨.int i, rfl, ?_, by simp [PyData.hasDict], by simp [PyData.depth], ?_, ?_⟩
  · simp only [PyData.showable, decide_eq_true_eq]
    have h2 : i.natAbs < 2 ^ 40 := by omega
    by_cases h0 : i.natAbs = 0
    · rw [h0]; decide
    · have := (Nat.log2_lt h0).mpr h2
      omega
  · have q := int_text_length_le10 (a := i) (k := 10) (by decide) h1
    rw [PyData.leavesShort]
    apply decide_eq_true
    show (Str.ofString (toString i)).length ≤ 12
    rw [ofString_length]
    omega
  · simp only [PyData.weight]
    split
    · omega
    · rename_i c
      have h0 : i.natAbs ≠ 0 := by simpa using c
      have h2 : i.natAbs < 2 ^ 39 := by omega
      have := (Nat.log2_lt h0).mpr h2
      omega
theorem Rep.non : Rep .non 0 0 := ⟨.none, rfl, by simp [PyData.showable], by simp [PyData.hasDict], by simp [PyData.depth], by simp [PyData.leavesShort], by simp [PyData.weight]⟩
theorem RepAll.of {dep wt : Nat} : ∀ {ds : List D}, (∀ d ∈ ds, Rep d dep wt) → RepAll ds dep wt
  | [], _ => ⟨[], rfl, rfl, by simp [PyData.showableAll], by simp [PyData.hasDictAll], by simp [PyData.depthAll], by simp [PyData.leavesShortAll], by simp [PyData.weightAll]⟩
  | d :: ds, h => by
    obtain ⟨p, e, h3, h4, h5, h6, h7⟩ := h d List.mem_cons_self
    obtain ⟨ps, e', g2, g3, g4, g5, g6, g7⟩ := RepAll.of (ds := ds) fun x hx => h x (List.mem_cons_of_mem _ hx)
    refine ⟨p :: ps, ?_, by simp [g2], by simp [PyData.showableAll, h3, g3], by simp [PyData.hasDictAll, h4, g4], ?_, by simp [PyData.leavesShortAll, h6, g6], ?_⟩
    · rw [O.toPs, e, e']
    · simp only [PyData.depthAll]; omega
    · simp only [PyData.weightAll, List.length_cons, Nat.add_mul, Nat.one_mul]; omega
theorem Rep.tup {ds : List D} {dep wt n : Nat} (h : ∀ d ∈ ds, Rep d dep wt) (hn : ds.length ≤ n) : Rep (.tup ds) (dep + 1) (n * (wt + 1)) := by
  obtain ⟨ps, e', g2, g3, g4, g5, g6, g7⟩ := RepAll.of h
  have := Nat.mul_le_mul_right (wt + 1) hn
  exact ⟨.tuple ps, by rw [O.toP, e']; rfl, by simpa [PyData.showable] using g3, by simpa [PyData.hasDict] using g4, by simp only [PyData.depth]; omega, by simpa [PyData.leavesShort] using g6, by simp only [PyData.weight]; omega⟩
theorem Rep.lst {ds : List D} {dep wt n : Nat} (h : ∀ d ∈ ds, Rep d dep wt) (hn : ds.length ≤ n) : Rep (.lst ds) (dep + 1) (n * (wt + 1)) := by
  obtain ⟨ps, e', g2, g3, g4, g5, g6, g7⟩ := RepAll.of h
  have := Nat.mul_le_mul_right (wt + 1) hn
  exact ⟨.list ps, by rw [O.toP, e']; rfl, by simpa [PyData.showable] using g3, by simpa [PyData.hasDict] using g4, by simp only [PyData.depth]; omega, by simpa [PyData.leavesShort] using g6, by simp only [PyData.weight]; omega⟩
/-- what repr says -/
def shw (d : D) : Str := match O.toP d with
  | some p => p.shown
  | none => ""
def isRow : D → Bool
  | .tup _ => true
  | .lst _ => true
  | _ => false
theorem repr_ev {x d : D} {z : Z} (hs : O.snap x z = d) (h : Rep d 40 1000000) (hr : isRow d = true) : F.repr [x] z = some (.str (shw d)) := by
  obtain ⟨p, e, h3, h4, h5, h6, h7⟩ := h
  have hrow : rowP p = true := by
    cases d with
    | tup ds =>
      rw [O.toP] at e
      cases hp : O.toPs ds with
      | none => rw [hp] at e; cases e
      | some q => rw [hp] at e; cases e; rfl
    | lst ds =>
      rw [O.toP] at e
      cases hp : O.toPs ds with
      | none => rw [hp] at e; cases e
      | some q => rw [hp] at e; cases e; rfl
    | _ => cases hr
  have hw : shw d = p.shown := by unfold shw; rw [e]
  rw [hw]
  show (match O.toP (O.snap x z) with | some p => if rprOk p = true ∧ p.shown.length ≤ sizeLine then some (D.str p.shown) else none | none => none) = _
  rw [hs, e]
  dsimp only
  rw [if_pos]
  refine ⟨?_, PyData.shown_fits (B := 12) (by decide) (by decide) h6 (by omega)⟩
  unfold rprOk
  rw [hrow, h3, h4, decide_eq_true h5]
  rfl
end Mi

set_option Elab.async false
set_option linter.all false
set_option maxRecDepth 100000
/-! Mi, part K: dicts. -/
namespace Mi
open PySem PySem.Spec PyProof.Rows L2
/-! ### plain -/
section
variable {κ α : Type} [DecidableEq κ]
def getG (kvs : List (κ × α)) (k : κ) : Option α := (kvs.find? fun kv => decide (kv.1 = k)).map (·.2)
def putG (kvs : List (κ × α)) (k : κ) (v : α) : List (κ × α) := if (kvs.any fun kv => decide (kv.1 = k)) = true then kvs.map (fun kv => if kv.1 = k then (kv.1, v) else kv) else kvs ++ [(k, v)]
def dropG (kvs : List (κ × α)) (k : κ) : List (κ × α) := kvs.filter fun kv => decide (kv.1 ≠ k)
end
def keyD : D → Option Key
  | .int i => some (.inl i)
  | .str s => some (.inr s)
  | _ => none
def keyDs : List D → Option (List Key)
  | [] => some []
  | d :: ds => match keyD d, keyDs ds with
    | some k, some ks => some (k :: ks)
    | _, _ => none
def keyT : D → Option (List Key)
  | .tup ds => keyDs ds
  | _ => none
/-- a dict's content -/
def dcont (x : D) (z : Z) : Option D := match x with
  | .dk kvs => some (.dk kvs)
  | .dt kvs => some (.dt kvs)
  | .ref n => match z.h[n]? with
    | some (.dk kvs) => some (.dk kvs)
    | some (.dt kvs) => some (.dt kvs)
    | _ => none
  | .own i => match z.s[i]? with
    | some (.own (.dk kvs)) => some (.dk kvs)
    | some (.own (.dt kvs)) => some (.dt kvs)
    | _ => none
  | _ => none
def dgetC (c key : D) : Option (Option D) := match c with
  | .dk kvs => match keyD key with
    | some k => some (getG kvs k)
    | none => none
  | .dt kvs => match keyT key with
    | some k => some (getG kvs k)
    | none => none
  | _ => none
def dputC (c key v : D) : Option D := match c with
  | .dk kvs => match keyD key with
    | some k => if kvs.length < szl then some (.dk (putG kvs k v)) else none
    | none => none
  | .dt kvs => match keyT key with
    | some k => if kvs.length < szl then some (.dt (putG kvs k v)) else none
    | none => none
  | _ => none
def ddropC (c key : D) : Option D := match c with
  | .dk kvs => match keyD key with
    | some k => some (.dk (dropG kvs k))
    | none => none
  | .dt kvs => match keyT key with
    | some k => some (.dt (dropG kvs k))
    | none => none
  | _ => none
def dget (x key : D) (z : Z) : Option (Option D) := match dcont x z with
  | some c => dgetC c key
  | none => none
namespace O
def dix (x y : D) (z : Z) : Option D := match dget x y z with
  | some o => o
  | none => none
def din (x y : D) (z : Z) : Option D := match dget y x z with
  | some o => some (.bl o.isSome)
  | none => none
def dnotIn (x y : D) (z : Z) : Option D := match dget y x z with
  | some o => some (.bl (!o.isSome))
  | none => none
end O
namespace E
/-- d.get(k) -/
def get1 (a b : M D) : M D := bnd a fun x z => if (dcont x z).isSome = true then bnd b (fun y z => match dget x y z with
  | some o => some (o.getD .non, z)
  | none => none) z else none
def get2 (a b c : M D) : M D := bnd a fun x z => if (dcont x z).isSome = true then bnd b (fun y => bnd c fun w z => if isPure w = true then match dget x y z with
  | some o => some (o.getD w, z)
  | none => none
  else none) z else none
/-- a new object laid down -/
def frzN (m : M D) : M D := m
/-- .. joins the shared heap -/
def shrN (m : M D) : M D := bnd m fun d z => some (.ref z.h.length, ⟨z.s, z.h ++ [d]⟩)
end E
namespace C
def dput (a k e : M D) : C := bnd e fun v => bnd a fun x => bnd k fun y z => if isPure v = true then match x with
    | .own i => match z.s[i]? with
      | some (.own c) => match dputC c y v with
        | some c' => some (.nx, ⟨z.s.set i (.own c'), z.h⟩)
        | none => none
      | _ => none
    | .ref n => match z.h[n]? with
      | some c => match dputC c y v with
        | some c' => some (.nx, ⟨z.s, z.h.set n c'⟩)
        | none => none
      | _ => none
    | _ => none
  else none
/-- the slot owns a new object -/
def ownN (i : Nat) (m : M D) : C := bnd m fun d z => if i < z.s.length then some (.nx, ⟨z.s.set i (.own d), z.h⟩) else none
def isDict : D → Bool
  | .dk _ => true
  | .dt _ => true
  | _ => false
/-- the slot's dict is not changed any more -/
def frzD (i : Nat) : C := fun z => match z.s[i]? with
  | some (.own d) => if isDict d = true then some (.nx, ⟨z.s.set i (.val d), z.h⟩) else none
  | _ => none
/-- return the slot's own dict -/
def retD (e : M D) : C := bnd e fun d z => match d with
  | .own i => match z.s[i]? with
    | some (.own d) => if isDict d = true then some (.rt d, ⟨z.s.set i .no, z.h⟩) else none
    | _ => none
  | _ => none
/-- a slot's own object goes to the shared heap -/
def retR (e : M D) : C := bnd e fun d z => match d with
  | .own i => match z.s[i]? with
    | some (.own d) => some (.rt (.ref z.h.length), ⟨z.s.set i .no, z.h ++ [d]⟩)
    | _ => none
  | _ => none
end C

/-! ### the relation of a dict's entries -/
def Rk (K : Kx) (F : Hp) (rho : List Addr) {κ : Type} (kvs : List (κ × D)) (es : List (κ × V)) : Prop := es.map Prod.fst = kvs.map Prod.fst ∧ Rps K F rho (kvs.map Prod.snd) (es.map Prod.snd)
section
variable {K : Kx} {F : Hp} {rho : List Addr} {κ : Type} [DecidableEq κ]
theorem Rk.length {kvs : List (κ × D)} {es : List (κ × V)} (r : Rk K F rho kvs es) : es.length = kvs.length := by
  have := congrArg List.length r.1
  simpa using this
theorem Rk.uncons {p : κ × D} {kvs : List (κ × D)} {es : List (κ × V)} (r : Rk K F rho (p :: kvs) es) : ∃ v es', es = (p.1, v) :: es' ∧ Rp K F rho p.2 v ∧ Rk K F rho kvs es' := by
  obtain ⟨h1, h2⟩ := r
  cases es with
  | nil => simp at h1
  | cons e es =>
    obtain ⟨k, v⟩ := e
    simp only [List.map_cons, List.cons.injEq] at h1
    simp only [List.map_cons] at h2
    cases h2 with
    | cons a b => exact ⟨v, es, by rw [← h1.1], a, h1.2, b⟩
theorem Rk.cons {k : κ} {d : D} {v : V} {kvs : List (κ × D)} {es : List (κ × V)} (a : Rp K F rho d v) (r : Rk K F rho kvs es) : Rk K F rho ((k, d) :: kvs) ((k, v) :: es) :=
  ⟨by simp only [List.map_cons, r.1], by simp only [List.map_cons]; exact .cons a r.2⟩
theorem Rk.nil : Rk K F rho ([] : List (κ × D)) [] := ⟨rfl, .nil⟩
theorem Rk.get (k : κ) : ∀ {kvs : List (κ × D)} {es : List (κ × V)}, Rk K F rho kvs es → (getG kvs k = none ∧ valV es k = none) ∨ ∃ d v, getG kvs k = some d ∧ valV es k = some v ∧ Rp K F rho d v
  | [], es, r => by
    have := r.length
    cases es with
    | nil => exact .inl ⟨rfl, rfl⟩
    | cons _ _ => simp at this
  | (j, d) :: kvs, es, r => by
    obtain ⟨v, es', rfl, h1, h2⟩ := r.uncons
    by_cases c : j = k
    · exact .inr ⟨d, v, by simp [getG, List.find?_cons, c], valV_pos c, h1⟩
    · have e1 : getG ((j, d) :: kvs) k = getG kvs k := by simp [getG, List.find?_cons, c]
      rw [e1, valV_neg c]
      exact Rk.get k h2
theorem any_keys (k : κ) {kvs : List (κ × D)} {es : List (κ × V)} (r : Rk K F rho kvs es) : (es.any fun kv => decide (kv.1 = k)) = kvs.any fun kv => decide (kv.1 = k) := by
  have e1 : (es.any fun kv => decide (kv.1 = k)) = (es.map Prod.fst).any fun j => decide (j = k) := by rw [List.any_map]; rfl
  have e2 : (kvs.any fun kv => decide (kv.1 = k)) = (kvs.map Prod.fst).any fun j => decide (j = k) := by rw [List.any_map]; rfl
  rw [e1, e2, r.1]
theorem Rk.repl (k : κ) {d : D} {v : V} (h : Rp K F rho d v) : ∀ {kvs : List (κ × D)} {es : List (κ × V)}, Rk K F rho kvs es → Rk K F rho (kvs.map fun kv => if kv.1 = k then (kv.1, d) else kv) (es.map fun kv => if kv.1 = k then (kv.1, v) else kv)
  | [], es, r => by
    have := r.length
    cases es with
    | nil => exact .nil
    | cons _ _ => simp at this
  | (j, d0) :: kvs, es, r => by
    obtain ⟨v0, es', rfl, h1, h2⟩ := r.uncons
    rw [List.map_cons, List.map_cons]
    dsimp only
    by_cases c : j = k
    · rw [if_pos c, if_pos c]
      exact .cons h (Rk.repl k h h2)
    · rw [if_neg c, if_neg c]
      exact .cons h1 (Rk.repl k h h2)
theorem Rk.append {kvs kvs2 : List (κ × D)} {es es2 : List (κ × V)} (r : Rk K F rho kvs es) (r2 : Rk K F rho kvs2 es2) : Rk K F rho (kvs ++ kvs2) (es ++ es2) :=
  ⟨by rw [List.map_append, List.map_append, r.1, r2.1], by rw [List.map_append, List.map_append]; exact r.2.append r2.2⟩
theorem Rk.put (k : κ) {d : D} {v : V} (h : Rp K F rho d v) {kvs : List (κ × D)} {es : List (κ × V)} (r : Rk K F rho kvs es) : Rk K F rho (putG kvs k d) (putK es k v) := by
  unfold putG putK
  rw [any_keys k r]
  split
  · exact r.repl k h
  · exact r.append (.cons h .nil)
theorem Rk.drop (k : κ) : ∀ {kvs : List (κ × D)} {es : List (κ × V)}, Rk K F rho kvs es → Rk K F rho (dropG kvs k) (dropK es k)
  | [], es, r => by
    have := r.length
    cases es with
    | nil => exact .nil
    | cons _ _ => simp at this
  | (j, d0) :: kvs, es, r => by
    obtain ⟨v0, es', rfl, h1, h2⟩ := r.uncons
    have ih := Rk.drop k h2
    unfold dropG dropK at ih ⊢
    rw [List.filter_cons, List.filter_cons]
    by_cases c : j = k
    · simpa [c] using ih
    · have e1 : (decide ((j, d0).1 ≠ k)) = true := decide_eq_true c
      have e2 : (decide ((j, v0).1 ≠ k)) = true := decide_eq_true c
      rw [if_pos e1, if_pos e2]
      exact .cons h1 ih
end
section
variable {K : Kx} {B : Bs} {F : Hp} {rho : List Addr} {om : Nat → Option Addr} {z : Z} {σ : L2.St} {H : Hp}
theorem keyD_ok {d : D} {v : V} {k : Key} (r : Rp K F rho d v) (e : keyD d = some k) : v = kV k := by
  cases r <;> first | (cases e; rfl) | cases e
theorem keyDs_ok : ∀ {ds : List D} {vs : List V} {k : List Key}, Rps K F rho ds vs → keyDs ds = some k → vs = k.map kV
  | [], _, _, .nil, e => by cases e; rfl
  | d :: ds, _, k, .cons r q, e => by
    rw [keyDs] at e
    split at e
    · rename_i k0 ks h1 h2
      cases e
      rw [keyD_ok r h1, keyDs_ok q h2]
      rfl
    · cases e
theorem keyT_ok {d : D} {v : V} {k : List Key} (r : Rp K F rho d v) (e : keyT d = some k) : ∃ b, v = .ref b ∧ F b = some (.tup (k.map kV)) := by
  cases r with
  | tup h q =>
    rw [← keyDs_ok q e]
    exact ⟨_, rfl, h⟩
  | _ => cases e
/-- a dict, read -/
theorem dcont_ok (R : Rl K B F rho om z σ H) {d c : D} {v : V} (r : Rv K F rho om d v) (e : dcont d z = some c) :
    ∃ a, v = .ref a ∧ ((∃ kvs es, c = .dk kvs ∧ Rd H a (.dK es) ∧ Rk K F rho kvs es) ∨ ∃ kvs es, c = .dt kvs ∧ Rd H a (.dT es) ∧ Rk K F rho kvs es) := by
  cases r with
  | pure r =>
    cases r with
    | @dk a es kvs o h k q =>
      cases e
      exact ⟨a, rfl, .inl ⟨kvs, es, rfl, .inr ⟨o, R.rh.fro _ _ h⟩, k, q⟩⟩
    | @dt a es kvs o h k q =>
      cases e
      exact ⟨a, rfl, .inr ⟨kvs, es, rfl, .inr ⟨o, R.rh.fro _ _ h⟩, k, q⟩⟩
    | @ref n a h =>
      unfold dcont at e
      dsimp only at e
      split at e
      · rename_i kvs hx
        cases e
        obtain ⟨es, h1, h2, h3⟩ := R.rh.obs n _ a hx h
        exact ⟨a, rfl, .inl ⟨kvs, es, rfl, .inl h1, h2, h3⟩⟩
      · rename_i kvs hx
        cases e
        obtain ⟨es, h1, h2, h3⟩ := R.rh.obs n _ a hx h
        exact ⟨a, rfl, .inr ⟨kvs, es, rfl, .inl h1, h2, h3⟩⟩
      · cases e
    | _ => cases e
  | @own i a h =>
    unfold dcont at e
    dsimp only at e
    split at e
    · rename_i kvs hx
      cases e
      obtain ⟨a', h1, _, es, h2, h3, h4⟩ := R.sl i _ hx
      rw [h] at h1
      cases h1
      exact ⟨a, rfl, .inl ⟨kvs, es, rfl, .inl h2, h3, h4⟩⟩
    · rename_i kvs hx
      cases e
      obtain ⟨a', h1, _, es, h2, h3, h4⟩ := R.sl i _ hx
      rw [h] at h1
      cases h1
      exact ⟨a, rfl, .inr ⟨kvs, es, rfl, .inl h2, h3, h4⟩⟩
    · cases e
theorem dget_ok (R : Rl K B F rho om z σ H) {x y : D} {xv yv : V} {o : Option D} (rx : Rv K F rho om x xv) (ry : Rv K F rho om y yv) (e : dget x y z = some o) :
    ∃ a, xv = .ref a ∧ ((o = none ∧ DGet H a yv none) ∨ ∃ d v, o = some d ∧ DGet H a yv (some v) ∧ Rp K F rho d v) := by
  unfold dget at e
  cases hc : dcont x z with
  | none => rw [hc] at e; cases e
  | some c =>
    rw [hc] at e
    dsimp only at e
    obtain ⟨a, rfl, h⟩ := dcont_ok R rx hc
    refine ⟨a, rfl, ?_⟩
    have pk : ∀ {k : Key}, keyD y = some k → yv = kV k := fun {k} hk => by
      cases ry with
      | pure ry => exact keyD_ok ry hk
      | own _ => cases hk
    have pt : ∀ {k : List Key}, keyT y = some k → ∃ b, yv = .ref b ∧ H b = some (.tup (k.map kV)) := fun {k} hk => by
      cases ry with
      | pure ry =>
        obtain ⟨b, e1, e2⟩ := keyT_ok ry hk
        exact ⟨b, e1, R.rh.fro _ _ e2⟩
      | own _ => cases hk
    rcases h with ⟨kvs, es, rfl, h1, h2⟩ | ⟨kvs, es, rfl, h1, h2⟩
    · unfold dgetC at e
      dsimp only at e
      cases hk : keyD y with
      | none => rw [hk] at e; cases e
      | some k =>
        rw [hk] at e
        cases e
        rcases h2.get k with ⟨e1, e2⟩ | ⟨d, v, e1, e2, e3⟩
        · exact .inl ⟨e1, .inl ⟨es, k, h1, pk hk, e2.symm⟩⟩
        · exact .inr ⟨d, v, e1, .inl ⟨es, k, h1, pk hk, e2.symm⟩, e3⟩
    · unfold dgetC at e
      dsimp only at e
      cases hk : keyT y with
      | none => rw [hk] at e; cases e
      | some k =>
        rw [hk] at e
        cases e
        obtain ⟨b, eb, hb⟩ := pt hk
        rcases h2.get k with ⟨e1, e2⟩ | ⟨d, v, e1, e2, e3⟩
        · exact .inl ⟨e1, .inr ⟨es, k, b, h1, eb, hb, e2.symm⟩⟩
        · exact .inr ⟨d, v, e1, .inr ⟨es, k, b, h1, eb, hb, e2.symm⟩, e3⟩
end
section
variable {X : Cx} {Tb : Tbs}
/-! ### d[k], k in d, d.get -/
theorem dix_go {K : Kx} {ma mb : M D} : ∀ σ H Q, Te K (E.op O.dix ma mb) σ H Q → tDGet (Te K ma) (Te K mb) σ H Q := by
  rintro σ H Q ⟨B, F, rho, om, z, g⟩
  refine (g.bnd.imp fun _ _ H1 _ _ xv _ _ _ _ _ ⟨F2, rho2, z2, x2, eg1, s1, p1, r1, g1⟩ => ?_).tx (R := rV K)
  refine (g1.bnd.imp fun _ _ H2 _ _ yv _ _ _ _ _ ⟨F3, rho3, z3, y3, eg2, s2, p2, r2, g2⟩ => ?_).tx (R := rV K)
  obtain ⟨R, d, z4, e, k⟩ := g2
  dsimp only at e
  split at e
  · cases e
  · rename_i d' hd
    cases e
    unfold O.dix at hd
    split at hd
    · rename_i o ho
      subst hd
      obtain ⟨a, rfl, h⟩ := dget_ok R (r1.mono s2 p2) r2 ho
      rcases h with ⟨h, _⟩ | ⟨d2, v, h, h2, h3⟩
      · cases h
      · cases h
        exact ⟨a, v, rfl, h2, k F3 rho3 H2 v (Same.refl _) (List.prefix_refl _) R (.pure h3)⟩
    · cases hd
theorem me_dix {a b : Expr} {pos : Pos} {ma mb : M D} (hu : X.A.units + 64 < cLine) (ha : PE X a (Te (kx X Tb) ma)) (hb : PE X b (Te (kx X Tb) mb)) (hs : NoSl b := by exact fun _ _ => rfl) : PE X (.Subscript a b pos) (Te (kx X Tb) (E.op O.dix ma mb)) :=
  pe_imp (pe_dget (by omega) ha hb hs) dix_go
theorem din_go {K : Kx} {ma mb : M D} : ∀ σ H Q, Te K (E.op O.din ma mb) σ H Q → tDIn (Te K ma) (Te K mb) σ H Q := by
  rintro σ H Q ⟨B, F, rho, om, z, g⟩
  refine (g.bnd.imp fun _ _ H1 _ _ xv _ _ _ _ _ ⟨F2, rho2, z2, x2, eg1, s1, p1, r1, g1⟩ => ?_).tx (R := rV K)
  refine (g1.bnd.imp fun _ _ H2 _ _ yv _ _ _ _ _ ⟨F3, rho3, z3, y3, eg2, s2, p2, r2, g2⟩ => ?_).tx (R := rV K)
  obtain ⟨R, d, z4, e, k⟩ := g2
  dsimp only at e
  split at e
  · cases e
  · rename_i d' hd
    cases e
    unfold O.din at hd
    split at hd
    · rename_i o ho
      cases hd
      obtain ⟨a, rfl, h⟩ := dget_ok R r2 (r1.mono s2 p2) ho
      rcases h with ⟨rfl, h⟩ | ⟨d2, v, rfl, h2, h3⟩
      · exact ⟨a, none, rfl, h, k F3 rho3 H2 _ (Same.refl _) (List.prefix_refl _) R (.pure (.bl _))⟩
      · exact ⟨a, some v, rfl, h2, k F3 rho3 H2 _ (Same.refl _) (List.prefix_refl _) R (.pure (.bl _))⟩
    · cases hd
theorem dnotIn_go {K : Kx} {ma mb : M D} : ∀ σ H Q, Te K (E.op O.dnotIn ma mb) σ H Q → tDNotIn (Te K ma) (Te K mb) σ H Q := by
  rintro σ H Q ⟨B, F, rho, om, z, g⟩
  refine (g.bnd.imp fun _ _ H1 _ _ xv _ _ _ _ _ ⟨F2, rho2, z2, x2, eg1, s1, p1, r1, g1⟩ => ?_).tx (R := rV K)
  refine (g1.bnd.imp fun _ _ H2 _ _ yv _ _ _ _ _ ⟨F3, rho3, z3, y3, eg2, s2, p2, r2, g2⟩ => ?_).tx (R := rV K)
  obtain ⟨R, d, z4, e, k⟩ := g2
  dsimp only at e
  split at e
  · cases e
  · rename_i d' hd
    cases e
    unfold O.dnotIn at hd
    split at hd
    · rename_i o ho
      cases hd
      obtain ⟨a, rfl, h⟩ := dget_ok R r2 (r1.mono s2 p2) ho
      rcases h with ⟨rfl, h⟩ | ⟨d2, v, rfl, h2, h3⟩
      · exact ⟨a, none, rfl, h, k F3 rho3 H2 _ (Same.refl _) (List.prefix_refl _) R (.pure (.bl _))⟩
      · exact ⟨a, some v, rfl, h2, k F3 rho3 H2 _ (Same.refl _) (List.prefix_refl _) R (.pure (.bl _))⟩
    · cases hd
theorem me_din {a b : Expr} {pos : Pos} {ma mb : M D} (hu : X.A.units + 64 < cLine) (ha : PE X a (Te (kx X Tb) ma)) (hb : PE X b (Te (kx X Tb) mb)) (hm : behindInMarks .In b = false := by rfl) : PE X (.Compare a [.In] [b] pos) (Te (kx X Tb) (E.op O.din ma mb)) := pe_imp (pe_cmp (pc_din (by omega) ha hb) hm) din_go
theorem mt_din {a b : Expr} {pos : Pos} {ma mb : M D} (hu : X.A.units + 64 < cLine) (ha : PE X a (Te (kx X Tb) ma)) (hb : PE X b (Te (kx X Tb) mb)) (hm : behindInMarks .In b = false := by rfl) : PT X (.Compare a [.In] [b] pos) (Tt (kx X Tb) (T.val (E.op O.din ma mb))) := pt_imp (pt_cmp (pc_din (by omega) ha hb) hm) (tv_go din_go)
theorem me_dnotIn {a b : Expr} {pos : Pos} {ma mb : M D} (hu : X.A.units + 64 < cLine) (ha : PE X a (Te (kx X Tb) ma)) (hb : PE X b (Te (kx X Tb) mb)) (hm : behindInMarks .NotIn b = false := by rfl) : PE X (.Compare a [.NotIn] [b] pos) (Te (kx X Tb) (E.op O.dnotIn ma mb)) := pe_imp (pe_cmp (pc_dnotin (by omega) ha hb) hm) dnotIn_go
theorem mt_dnotIn {a b : Expr} {pos : Pos} {ma mb : M D} (hu : X.A.units + 64 < cLine) (ha : PE X a (Te (kx X Tb) ma)) (hb : PE X b (Te (kx X Tb) mb)) (hm : behindInMarks .NotIn b = false := by rfl) : PT X (.Compare a [.NotIn] [b] pos) (Tt (kx X Tb) (T.val (E.op O.dnotIn ma mb))) := pt_imp (pt_cmp (pc_dnotin (by omega) ha hb) hm) (tv_go dnotIn_go)
theorem isD_ok {K : Kx} {B : Bs} {F : Hp} {rho : List Addr} {om : Nat → Option Addr} {z : Z} {σ : L2.St} {H : Hp} {x : D} {v : V} (R : Rl K B F rho om z σ H) (r : Rv K F rho om x v) (h : (dcont x z).isSome = true) : ∃ a, v = .ref a ∧ IsD H a := by
  cases hc : dcont x z with
  | none => rw [hc] at h; cases h
  | some c =>
    obtain ⟨a, rfl, q⟩ := dcont_ok R r hc
    rcases q with ⟨kvs, es, _, q, _⟩ | ⟨kvs, es, _, q, _⟩
    · exact ⟨a, rfl, .inl ⟨es, q⟩⟩
    · exact ⟨a, rfl, .inr ⟨es, q⟩⟩
theorem get1_go {K : Kx} {ma mb : M D} : ∀ σ H Q, Te K (E.get1 ma mb) σ H Q → tDGet1 (Te K ma) (Te K mb) σ H Q := by
  rintro σ H Q ⟨B, F, rho, om, z, g⟩
  refine (g.bnd.imp fun _ _ H1 _ _ xv _ _ _ _ _ ⟨F2, rho2, z2, x2, eg1, s1, p1, r1, g1⟩ => ?_).tx (R := rV K)
  obtain ⟨R, d, z4, e, k⟩ := g1
  dsimp only at e
  split at e
  · rename_i hd
    obtain ⟨a, rfl, hi⟩ := isD_ok R r1 hd
    refine ⟨a, rfl, hi, ?_⟩
    have g2 : Go K (rV K) B F2 rho2 om (bnd mb fun y z => match dget x2 y z with | some o => some (o.getD .non, z) | none => none) z2 σ H1 Q := ⟨R, d, z4, e, k⟩
    refine (g2.bnd.imp fun _ _ H2 _ _ yv _ _ _ _ _ ⟨F3, rho3, z3, y3, eg2, s2, p2, r2, g3⟩ => ?_).tx (R := rV K)
    obtain ⟨R3, d3, z5, e3, k3⟩ := g3
    dsimp only at e3
    split at e3
    · rename_i o ho
      cases e3
      obtain ⟨a2, ea, h⟩ := dget_ok R3 (r1.mono s2 p2) r2 ho
      cases ea
      rcases h with ⟨rfl, h⟩ | ⟨d2, v, rfl, h2, h3⟩
      · exact ⟨none, h, k3 F3 rho3 H2 _ (Same.refl _) (List.prefix_refl _) R3 (.pure .non)⟩
      · exact ⟨some v, h2, k3 F3 rho3 H2 _ (Same.refl _) (List.prefix_refl _) R3 (.pure h3)⟩
    · cases e3
  · cases e
theorem me_get1 {o e : Expr} {apos cpos : Pos} {ma mb : M D} (hu : X.A.units + 64 < cLine) (ha : PE X o (Te (kx X Tb) ma)) (hb : PE X e (Te (kx X Tb) mb)) (m : M1 X o "get" apos e cpos := by exact ⟨rfl, rfl, rfl, rfl⟩) : PE X (.Call (.Attribute o "get" apos) [e] [] cpos) (Te (kx X Tb) (E.get1 ma mb)) :=
  pe_imp (pe_dget1 (by omega) ha hb m) get1_go
theorem get2_go {K : Kx} {ma mb mc : M D} : ∀ σ H Q, Te K (E.get2 ma mb mc) σ H Q → tDGet2 (Te K ma) (Te K mb) (Te K mc) σ H Q := by
  rintro σ H Q ⟨B, F, rho, om, z, g⟩
  refine (g.bnd.imp fun _ _ H1 _ _ xv _ _ _ _ _ ⟨F2, rho2, z2, x2, eg1, s1, p1, r1, g1⟩ => ?_).tx (R := rV K)
  obtain ⟨R, d, z4, e, k⟩ := g1
  dsimp only at e
  split at e
  · rename_i hd
    obtain ⟨a, rfl, hi⟩ := isD_ok R r1 hd
    refine ⟨a, rfl, hi, ?_⟩
    have g2 : Go K (rV K) B F2 rho2 om (bnd mb fun y => bnd mc fun w z => if isPure w = true then match dget x2 y z with | some o => some (o.getD w, z) | none => none else none) z2 σ H1 Q := ⟨R, d, z4, e, k⟩
    refine (g2.bnd.imp fun _ _ H2 _ _ yv _ _ _ _ _ ⟨F3, rho3, z3, y3, eg2, s2, p2, r2, g3⟩ => ?_).tx (R := rV K)
    refine (g3.bnd.imp fun _ _ H4 _ _ wv _ _ _ _ _ ⟨F5, rho5, z5, w5, eg5, s5, p5, r5, g5⟩ => ?_).tx (R := rV K)
    obtain ⟨R3, d3, z6, e3, k3⟩ := g5
    dsimp only at e3
    split at e3
    · rename_i hw
      split at e3
      · rename_i o ho
        cases e3
        obtain ⟨a2, ea, h⟩ := dget_ok R3 ((r1.mono s2 p2).mono s5 p5) (r2.mono s5 p5) ho
        cases ea
        rcases h with ⟨rfl, h⟩ | ⟨d2, v, rfl, h2, h3⟩
        · exact ⟨none, h, k3 F5 rho5 H4 _ (Same.refl _) (List.prefix_refl _) R3 r5⟩
        · exact ⟨some v, h2, k3 F5 rho5 H4 _ (Same.refl _) (List.prefix_refl _) R3 (.pure h3)⟩
      · cases e3
    · cases e3
  · cases e
theorem me_get2 {o e f : Expr} {apos cpos : Pos} {ma mb mc : M D} (hu : X.A.units + 64 < cLine) (ha : PE X o (Te (kx X Tb) ma)) (hb : PE X e (Te (kx X Tb) mb)) (hc : PE X f (Te (kx X Tb) mc)) (m : M2 X o "get" apos e f cpos := by exact ⟨rfl, rfl, rfl, rfl⟩) : PE X (.Call (.Attribute o "get" apos) [e, f] [] cpos) (Te (kx X Tb) (E.get2 ma mb mc)) :=
  pe_imp (pe_dget2 (by omega) ha hb hc m) get2_go

/-! ### new objects -/
abbrev rN (K : Kx) : RelT D V := fun B F rho om H d v => ∃ p, v = .ref p ∧ Fresh K B F rho om H p ∧ Ob K F rho H p d
abbrev Tn (K : Kx) (m : M D) : TE := Tx K (rN K) m
theorem mn_dnewK {pos : Pos} : PE X (.Dict [] [] pos) (Tn (kx X Tb) (ret (.dk []))) := by
  refine pe_imp pe_dnewK fun σ H Q ⟨B, F, rho, om, z, R, d, z', e, k⟩ => ?_
  cases e
  intro p hp
  obtain ⟨R2, f2⟩ := R.new (o := .dK []) hp
  exact k F rho _ _ (Same.refl _) (List.prefix_refl _) R2 ⟨p, rfl, f2, [], upd_same, rfl, .nil⟩
theorem mn_dnewT {pos : Pos} : PE X (.Dict [] [] pos) (Tn (kx X Tb) (ret (.dt []))) := by
  refine pe_imp pe_dnewT fun σ H Q ⟨B, F, rho, om, z, R, d, z', e, k⟩ => ?_
  cases e
  intro p hp
  obtain ⟨R2, f2⟩ := R.new (o := .dT []) hp
  exact k F rho _ _ (Same.refl _) (List.prefix_refl _) R2 ⟨p, rfl, f2, [], upd_same, rfl, .nil⟩
/-- a new list, as such a thing -/
theorem mn_lst {e : Expr} {m : M (List D)} (h : PE X e (Tf (kx X Tb) m)) : PE X e (Tn (kx X Tb) (bnd m fun ds => ret (.lst ds))) := by
  refine pe_imp h fun σ H Q ⟨B, F, rho, om, z, g⟩ => ?_
  refine (g.bnd.imp fun _ _ H1 _ _ v _ _ _ _ _ ⟨F2, rho2, z2, xs, eg1, s1, p1, ⟨p, vs, hv, hp, f, r1⟩, g1⟩ => ?_).tx (R := rF (kx X Tb))
  exact g1.ret _ ⟨p, hv, f, vs, hp, r1⟩
theorem me_shrN {e : Expr} {m : M D} (h : PE X e (Tn (kx X Tb) m)) : PE X e (Te (kx X Tb) (E.shrN m)) := by
  refine pe_imp h fun σ H Q ⟨B, F, rho, om, z, g⟩ => ?_
  refine (g.bnd.imp fun _ _ H1 _ _ v _ _ _ _ _ ⟨F2, rho2, z2, d, eg1, s1, p1, ⟨p, hv, f, r1⟩, g1⟩ => ?_).tx (R := rN (kx X Tb))
  subst hv
  obtain ⟨R, d', z4, e, k⟩ := g1
  cases e
  obtain ⟨R3, q3⟩ := R.share (d := d) f r1
  exact k _ _ _ _ (Same.refl _) (List.prefix_append _ _) R3 (.pure (.ref q3))
theorem ownN_go {K : Kx} {i : Nat} {m : M D} {te : TE} (h : ∀ σ H Q, Tn K m σ H Q → te σ H Q) : ∀ D σ H, Ts K (C.ownN i m) D σ H → tAsg te (gName i) D σ H := by
  rintro D σ H ⟨B, F, rho, om, z, R, f, z', e, k⟩
  obtain ⟨d, z1, e1, e2⟩ := bnd_some e
  refine h σ H _ ⟨B, F, rho, om, z, R, d, z1, e1, fun F1 rho1 H1 v s p R1 ⟨a, hv, f0, r1⟩ => ?_⟩
  subst hv
  try dsimp only at e2
  split at e2
  · rename_i hl
    cases e2
    exact k F1 rho1 _ _ H1 s p (R1.setOwn i hl f0 r1)
  · cases e2
theorem ms_ownN {i : Nat} {x : Str} {e : Expr} {m : M D} {pos pos' : Pos} (hN : X.N.Nodup) (he : PE X e (Tn (kx X Tb) m)) (hi : X.N[i]? = some x := by rfl) (hx : Loc X.env.scope x := by first | exact Or.inl rfl | exact Or.inr rfl)
    (hs : swapsWith e (some (.Name x pos')) pos.line X.env = pure false := by rfl) (hf : X.fn x = true ∨ X.env.scope.names.lookup x = some .local := by first | exact .inl rfl | exact .inr rfl) : PS X (.Assign [.Name x pos'] e pos) (Ts (kx X Tb) (C.ownN i m)) :=
  ps_imp (ps_set hN hi hx he hs hf) (ownN_go fun _ _ _ h => h)
/-! ### d[k] = e -/
theorem dput_rel {K : Kx} {F : Hp} {rho : List Addr} {H : Hp} {a : Addr} {c c' y v : D} {yv vv : V} (fro : Same F H) (ob : Ob K F rho H a c) (ry : Rp K F rho y yv) (rv : Rp K F rho v vv) (e : dputC c y v = some c') :
    ∃ o, DPut H a yv vv (upd H a o) ∧ Ob K F rho (upd H a o) a c' := by
  unfold dputC at e
  split at e
  · rename_i kvs
    obtain ⟨es, h1, h2, h3⟩ := ob
    split at e
    · rename_i k hk
      split at e
      · rename_i hz
        cases e
        have r := Rk.put (K := K) (F := F) (rho := rho) k rv ⟨h2, h3⟩
        refine ⟨_, .inl ⟨es, k, h1, keyD_ok ry hk, ?_, rfl⟩, _, upd_same, r.1, r.2⟩
        rw [Rk.length (K := K) (F := F) (rho := rho) ⟨h2, h3⟩]
        exact szl_ok hz
      · cases e
    · cases e
  · rename_i kvs
    obtain ⟨es, h1, h2, h3⟩ := ob
    split at e
    · rename_i k hk
      split at e
      · rename_i hz
        cases e
        have r := Rk.put (K := K) (F := F) (rho := rho) k rv ⟨h2, h3⟩
        obtain ⟨b, eb, hb⟩ := keyT_ok ry hk
        refine ⟨_, .inr ⟨es, k, b, h1, eb, fro _ _ hb, ?_, rfl⟩, _, upd_same, r.1, r.2⟩
        rw [Rk.length (K := K) (F := F) (rho := rho) ⟨h2, h3⟩]
        exact szl_ok hz
      · cases e
    · cases e
  · cases e
theorem dput_pure {c y v c' : D} (h : dputC c y v = some c') : isPure y = true := by
  unfold dputC at h
  cases y <;> first | rfl | (split at h <;> first | cases h | (split at h <;> first | cases h | (rename_i hk; cases hk)))
theorem ms_dput {o i e : Expr} {ma mk me : M D} {p pos : Pos} (hu : X.A.units + 64 < cLine) (he : PE X e (Te (kx X Tb) me)) (ha : PE X o (Te (kx X Tb) ma)) (hk : PE X i (Te (kx X Tb) mk)) (hs : swapsWith e (some (.Subscript o i p)) pos.line X.env = pure false := by rfl) :
    PS X (.Assign [.Subscript o i p] e pos) (Ts (kx X Tb) (C.dput ma mk me)) := by
  refine ps_imp (ps_dput (by omega) ha hk he hs) fun D σ H ⟨B, F, rho, om, z, R, f, z', e, k⟩ => ?_
  obtain ⟨d, z1, e1, e2⟩ := bnd_some e
  refine ⟨B, F, rho, om, z, R, d, z1, e1, fun F1 rho1 H1 v s1 p1 R1 r1 => ?_⟩
  obtain ⟨x, z2, e3, e4⟩ := bnd_some e2
  refine ⟨B, F1, rho1, om, z1, R1, x, z2, e3, fun F2 rho2 H2 w s2 p2 R2 r2 => ?_⟩
  obtain ⟨y, z3, e5, e6⟩ := bnd_some e4
  refine ⟨B, F2, rho2, om, z2, R2, y, z3, e5, fun F3 rho3 H3 u s3 p3 R3 r3 => ?_⟩
  try dsimp only at e6
  split at e6
  · rename_i hp
    have rd : Rp (kx X Tb) F3 rho3 d v := ((r1.of_pure hp).mono s2 p2).mono s3 p3
    have r2' := r2.mono s3 p3
    split at e6
    · rename_i j
      cases r2' with
      | pure r2' => cases r2'
      | own h =>
        split at e6
        · rename_i c hc
          split at e6
          · rename_i c' hd
            cases e6
            obtain ⟨a', h1, h5, h2⟩ := R3.sl _ _ hc
            rw [h] at h1
            cases h1
            obtain ⟨o, q1, q2⟩ := dput_rel R3.rh.fro h2 (r3.of_pure (dput_pure hd)) rd hd
            exact ⟨_, _, rfl, q1, k F3 rho3 _ _ _ ((s1.trans s2).trans s3) ((p1.trans p2).trans p3) (R3.mutOwn h hc q2)⟩
          · cases e6
        · cases e6
    · rename_i n
      cases r2' with
      | pure r2' =>
        cases r2' with
        | ref h =>
          split at e6
          · rename_i c hc
            split at e6
            · rename_i c' hd
              cases e6
              obtain ⟨o, q1, q2⟩ := dput_rel R3.rh.fro (R3.rh.obs n _ _ hc h) (r3.of_pure (dput_pure hd)) rd hd
              exact ⟨_, _, rfl, q1, k F3 rho3 _ _ _ ((s1.trans s2).trans s3) ((p1.trans p2).trans p3) (R3.mutRef h q2)⟩
            · cases e6
          · cases e6
    · cases e6
  · cases e6
end
end Mi

set_option Elab.async false
set_option linter.all false
set_option maxRecDepth 100000
/-! Mi, part L: dicts that are laid down, displays, sorted(d), slices. -/
namespace Mi
open PySem PySem.Spec PyProof.Rows L2 PySem.W
/-! ### a dict is laid down: it is locked for ever -/
namespace E
def frzD (m : M D) : M D := bnd m fun d => if C.isDict d = true then Mi.ret d else fun _ => none
end E
section
variable {K : Kx} {B : Bs} {F : Hp} {rho : List Addr} {om : Nat → Option Addr} {z : Z} {σ : L2.St} {H : Hp} {p : Addr}
theorem ob_dict {d : D} (h : Ob K F rho H p d) (hd : C.isDict d = true) : ∃ u, H p = some u ∧ Mut (some u) ∧ NT u ∧ ∀ {F' : Hp} {rho' : List Addr} (o : Obj), Same F F' → rho <+: rho' → F' p = some (.frz o u) → Rp K F' rho' d (.ref p) := by
  cases d <;> try (cases hd; done)
  · obtain ⟨es, h1, h2, h3⟩ := h
    exact ⟨_, h1, trivial, (fun _ e => nomatch e), fun o s q e => .dk e h2 (h3.mono s q)⟩
  · obtain ⟨es, h1, h2, h3⟩ := h
    exact ⟨_, h1, trivial, (fun _ e => nomatch e), fun o s q e => .dt e h2 (h3.mono s q)⟩
/-- an object of nobody's, locked, is laid down -/
theorem Rl.lock (R : Rl K B F rho om z σ H) (f : Fresh K B F rho om H p) {u : HO} (o : Obj) : ∃ F', Rl K B F' rho om z σ (upd H p (.frz o u)) ∧ Same F F' ∧ F' p = some (.frz o u) := by
  obtain ⟨R1, f1⟩ := R.mutFresh (o := .frz o u) f
  obtain ⟨R2, s2⟩ := R1.lay f1 upd_same
  exact ⟨_, R2, s2, upd_same⟩
end
section
variable {X : Cx} {Tb : Tbs}
theorem pe_lk {e : Expr} {t : TE} (h : PE X e t) : PE X e fun σ H Q => t σ H fun v H1 => ∃ d u, v = .ref d ∧ H1 d = some u ∧ Mut (some u) ∧ ∀ od, Q v (upd H1 d (.frz od u)) := by
  refine ⟨fun pins s σ H Q I hw => ?_⟩
  refine thn (h.run pins s σ H _ I hw) fun v s1 ⟨x, H1, I1, r, d, u, ex, hd, mu, q⟩ => ?_
  obtain ⟨od, I2⟩ := I1.lock hd mu
  exact ⟨x, _, I2, r, q od⟩
theorem pss_lk {st : List Stmt} {t : L2.TS} (h : PSs X st t) : PSs X st fun D σ H => ∃ d u, H d = some u ∧ Mut (some u) ∧ ∀ od, t D σ (upd H d (.frz od u)) := by
  refine ⟨fun pins s σ H D I hw => ?_⟩
  obtain ⟨d, u, hd, mu, q⟩ := hw
  obtain ⟨od, I2⟩ := I.lock hd mu
  exact h.run pins s σ _ D I2 (q od)
theorem me_frzD {e : Expr} {m : M D} (h : PE X e (Tn (kx X Tb) m)) : PE X e (Te (kx X Tb) (E.frzD m)) := by
  refine pe_imp (pe_lk h) fun σ H Q ⟨B, F, rho, om, z, g⟩ => ?_
  refine (g.bnd.imp fun _ _ H1 _ _ v _ _ _ _ _ ⟨F2, rho2, z2, d, eg1, s1, p1, ⟨p, hv, f, r1⟩, g1⟩ => ?_).tx (R := rN (kx X Tb))
  subst hv
  obtain ⟨R, d', z4, e, k⟩ := g1
  split at e
  · rename_i hd
    cases e
    obtain ⟨u, h1, mu, _, r2⟩ := ob_dict r1 hd
    refine ⟨p, u, rfl, h1, mu, fun od => ?_⟩
    obtain ⟨F3, R3, s3, q3⟩ := R.lock (u := u) f od
    exact k F3 rho2 _ _ s3 (List.prefix_refl _) R3 (.pure (r2 od s3 (List.prefix_refl _) q3))
  · cases e
theorem ms_retD {e : Expr} {m : M D} {pos : Pos} (he : PE X e (Te (kx X Tb) m)) : PS X (.Return (some e) pos) (Ts (kx X Tb) (C.retD m)) := by
  refine ps_imp (ps_ret (pe_lk he)) fun D σ H ⟨B, F, rho, om, z, R, f, z', e, k⟩ => ?_
  obtain ⟨x, z1, e1, e2⟩ := bnd_some e
  refine ⟨B, F, rho, om, z, R, x, z1, e1, fun F1 rho1 H1 v s p R1 r1 => ?_⟩
  cases r1 with
  | pure r1 => cases x <;> first | (cases e2; done) | (cases r1; done)
  | @own i a h =>
    dsimp only at e2
    split at e2
    · rename_i d hs
      split at e2
      · rename_i hd
        cases e2
        obtain ⟨a', h1, h2, h5⟩ := R1.sl i _ hs
        rw [h] at h1
        cases h1
        obtain ⟨u, q1, mu, _, r2⟩ := ob_dict h5 hd
        refine ⟨a, u, rfl, q1, mu, fun od => ?_⟩
        have f0 := R1.freshOwn h
        obtain ⟨F3, R3, s3, q3⟩ := (R1.forget i).lock (u := u) f0 od
        exact k F3 rho1 _ σ _ _ (s.trans s3) p R3 (r2 od s3 (List.prefix_refl _) q3)
      · cases e2
    · cases e2
theorem ms_retR {e : Expr} {m : M D} {pos : Pos} (he : PE X e (Te (kx X Tb) m)) : PS X (.Return (some e) pos) (Ts (kx X Tb) (C.retR m)) := by
  refine ps_imp (ps_ret he) fun D σ H ⟨B, F, rho, om, z, R, f, z', e, k⟩ => ?_
  obtain ⟨x, z1, e1, e2⟩ := bnd_some e
  refine ⟨B, F, rho, om, z, R, x, z1, e1, fun F1 rho1 H1 v s p R1 r1 => ?_⟩
  cases r1 with
  | pure r1 => cases x <;> first | (cases e2; done) | (cases r1; done)
  | @own i a h =>
    dsimp only at e2
    split at e2
    · rename_i d hs
      cases e2
      obtain ⟨a', h1, h2, h5⟩ := R1.sl i _ hs
      rw [h] at h1
      cases h1
      have f0 := R1.freshOwn h
      obtain ⟨R2, q2⟩ := (R1.forget i).share (d := d) f0 h5
      exact k F1 _ _ σ H1 _ s (p.trans (List.prefix_append _ _)) R2 (.ref q2)
    · cases e2
theorem mss_frzD {rest : List Stmt} {b : C} (i : Nat) (h : PSs X rest (Ts (kx X Tb) b)) : PSs X rest (Ts (kx X Tb) (C.seq (C.frzD i) b)) := by
  refine pss_imp (pss_lk h) fun D σ H ⟨B, F, rho, om, z, R, f, z', e, k⟩ => ?_
  unfold C.seq C.frzD at e
  cases hs : z.s[i]? with
  | none =>
    rw [hs] at e
    cases e
  | some x =>
    cases x with
    | own d =>
      rw [hs] at e
      dsimp only at e
      by_cases hd : C.isDict d = true
      · rw [if_pos hd] at e
        have e : b ⟨z.s.set i (.val d), z.h⟩ = some (f, z') := e
        obtain ⟨a, h1, h2, h3⟩ := R.sl i _ hs
        have f0 := R.freshOwn h1
        obtain ⟨u, q1, mu, _, r2⟩ := ob_dict h3 hd
        refine ⟨a, u, q1, mu, fun od => ?_⟩
        obtain ⟨F3, R3, s3, q3⟩ := (R.forget i).lock (u := u) f0 od
        have hσ : σ.set i (some (V.ref a)) = σ := by
          refine List.ext_getElem? fun j => ?_
          by_cases c : j = i
          · subst c
            rw [h2, List.getElem?_set_self (List.getElem?_eq_some_iff.mp h2).1]
          · rw [List.getElem?_set_ne (Ne.symm c)]
        have R4 := R3.setVal i (r2 od s3 (List.prefix_refl _) q3)
        rw [hσ] at R4
        have ez : (⟨(z.s.set i Sl.no).set i (.val d), z.h⟩ : Z) = ⟨z.s.set i (.val d), z.h⟩ := by rw [List.set_set]
        have R4 : Rl (kx X Tb) B _ rho (omSet (omSet om i none) i none) ⟨(z.s.set i Sl.no).set i (.val d), z.h⟩ σ _ := R4
        rw [ez] at R4
        exact ⟨B, _, rho, _, _, R4, f, z', e, k.mono s3 (List.prefix_refl _)⟩
      · rw [if_neg hd] at e
        cases e
    | _ =>
      rw [hs] at e
      cases e
/-! ### {k: v, ..} -/
end
namespace E
def pairs : List (M D × M D) → M (List (Key × D))
  | [] => Mi.ret []
  | (a, b) :: r => bnd a fun x => bnd b fun y => bnd (pairs r) fun ps => match keyD x with
    | some k => if isPure y = true then Mi.ret ((k, y) :: ps) else fun _ => none
    | none => fun _ => none
end E
def mergeG {κ α : Type} [DecidableEq κ] (kvs more : List (κ × α)) : List (κ × α) := more.foldl (fun acc kv => putG acc kv.1 kv.2) kvs
namespace N
def dispK (prs : List (M D × M D)) : M D := bnd (E.pairs prs) fun ps => Mi.ret (.dk (mergeG [] ps))
end N
theorem Rk.merge {K : Kx} {F : Hp} {rho : List Addr} : ∀ {more : List (Key × D)} {es : List (Key × V)} {kvs : List (Key × D)} {vs : List (Key × V)}, Rk K F rho more es → Rk K F rho kvs vs → Rk K F rho (mergeG kvs more) (mergeK vs es)
  | [], es, kvs, vs, r, q => by
    have := r.length
    cases es with
    | nil => exact q
    | cons _ _ => simp at this
  | (j, d) :: more, es, kvs, vs, r, q => by
    obtain ⟨v, es', rfl, h1, h2⟩ := r.uncons
    show Rk K F rho (mergeG (putG kvs j d) more) (mergeK (putK vs j v) es')
    exact Rk.merge h2 (q.put (K := K) (F := F) (rho := rho) j h1)
theorem Rk.mono {K : Kx} {F F' : Hp} {rho rho' : List Addr} {κ : Type} {kvs : List (κ × D)} {es : List (κ × V)} (s : Same F F') (p : rho <+: rho') (r : Rk K F rho kvs es) : Rk K F' rho' kvs es := ⟨r.1, r.2.mono s p⟩
abbrev rPs (K : Kx) : RelT (List (Key × D)) (List (V × V)) := fun _ F rho _ _ ps vs => ∃ es : List (Key × V), vs = es.map (fun kv => (kV kv.1, kv.2)) ∧ Rk K F rho ps es
theorem pairs_go {K : Kx} : ∀ (prs : List (M D × M D)) {B : Bs} {F : Hp} {rho : List Addr} {om : Nat → Option Addr} {z : Z} {σ : L2.St} {H : Hp} {Q : List (V × V) → Hp → Prop}, Go K (rPs K) B F rho om (E.pairs prs) z σ H Q → tPairs (prs.map fun p => (Te K p.1, Te K p.2)) σ H Q
  | [], B, F, rho, om, z, σ, H, Q, g => g.ret _ ⟨[], rfl, .nil⟩
  | (a, b) :: r, B, F, rho, om, z, σ, H, Q, g => by
    have g : Go K (rPs K) B F rho om (bnd a fun x => bnd b fun y => bnd (E.pairs r) fun ps => match keyD x with
      | some k => if isPure y = true then Mi.ret ((k, y) :: ps) else fun _ => none
      | none => fun _ => none) z σ H Q := g
    refine (g.bnd.imp fun _ _ H1 _ _ xv _ _ _ _ _ ⟨F2, rho2, z2, x2, eg1, s1, p1, r1, g1⟩ => ?_).tx (R := rV K)
    refine (g1.bnd.imp fun _ _ H2 _ _ yv _ _ _ _ _ ⟨F3, rho3, z3, y3, eg2, s2, p2, r2, g2⟩ => ?_).tx (R := rV K)
    refine pairs_go r (g2.bnd.imp fun _ _ H4 _ _ vs _ _ _ _ _ ⟨F5, rho5, z5, ps5, eg5, s5, p5, ⟨es, hv, rk⟩, g5⟩ => ?_)
    cases hk : keyD x2 with
    | none =>
      rw [hk] at g5
      obtain ⟨_, _, _, e, _⟩ := g5
      cases e
    | some k =>
      rw [hk] at g5
      dsimp only at g5
      by_cases hp : isPure y3 = true
      · rw [if_pos hp] at g5
        have ex : xv = kV k := by
          cases r1 with
          | pure r1 => exact keyD_ok r1 hk
          | own _ => cases hk
        refine g5.ret _ ⟨(k, yv) :: es, ?_, .cons ((r2.mono s5 p5).of_pure hp) rk⟩
        rw [hv, ex]
        rfl
      · rw [if_neg hp] at g5
        obtain ⟨_, _, _, e, _⟩ := g5
        cases e
section
variable {X : Cx} {Tb : Tbs}
theorem mp_nil {pos : Pos} : PPs X pos [] [] (([] : List (M D × M D)).map fun p => (Te (kx X Tb) p.1, Te (kx X Tb) p.2)) := pps_nil
theorem mp_cons {pos : Pos} {k v : Expr} {ks : List (Option Expr)} {vs : List Expr} {mk mv : M D} {prs : List (M D × M D)} (hk : PE X k (Te (kx X Tb) mk)) (hv : PE X v (Te (kx X Tb) mv)) (hr : PPs X pos ks vs (prs.map fun p => (Te (kx X Tb) p.1, Te (kx X Tb) p.2))) :
    PPs X pos (some k :: ks) (v :: vs) (((mk, mv) :: prs).map fun p => (Te (kx X Tb) p.1, Te (kx X Tb) p.2)) := pps_cons hk hv hr
theorem pairs_len : ∀ {prs : List (M D × M D)} {z z' : Z} {ps : List (Key × D)}, E.pairs prs z = some (ps, z') → ps.length = prs.length
  | [], z, z', ps, h => by cases h; rfl
  | (a, b) :: r, z, z', ps, h => by
    obtain ⟨x, z1, _, h2⟩ := bnd_some h
    obtain ⟨y, z2, _, h4⟩ := bnd_some h2
    obtain ⟨qs, z3, h5, h6⟩ := bnd_some h4
    cases hk : keyD x with
    | none => rw [hk] at h6; cases h6
    | some k =>
      rw [hk] at h6
      dsimp only at h6
      split at h6
      · cases h6
        rw [List.length_cons, List.length_cons, pairs_len h5]
      · cases h6
theorem mn_disp {pos : Pos} {keys : List (Option Expr)} {values : List Expr} {prs : List (M D × M D)} (h : PPs X pos keys values (prs.map fun p => (Te (kx X Tb) p.1, Te (kx X Tb) p.2))) (hall : keys.all (·.isSome) = true := by rfl) (hl : keys.length = values.length := by rfl) (h0 : keys ≠ [] := by exact fun e => nomatch e)
    (h15 : keys.length ≤ 15 := by decide) (hp : prs.length ≤ 15 := by decide) : PE X (.Dict keys values pos) (Tn (kx X Tb) (N.dispK prs)) := by
  refine pe_imp (pe_disp h hall hl h0 h15) fun σ H Q ⟨B, F, rho, om, z, R, d, z', e, k⟩ => ?_
  intro p hnew
  obtain ⟨ps, z1, e1, e2⟩ := bnd_some e
  cases e2
  obtain ⟨R1, f1⟩ := R.new (o := .dK []) hnew
  refine pairs_go prs ⟨R1.reb, ps, _, e1, fun F2 rho2 H2 vs s2 p2 R2 ⟨es, hv, rk⟩ => ?_⟩
  obtain ⟨f2, hH⟩ := f1.through R2 fun _ h => h
  have hl2 := rk.length
  have hl3 := pairs_len e1
  refine ⟨hH.trans upd_same, es, hv, by omega, ?_⟩
  obtain ⟨R3, f3⟩ := (R1.back R2).mutFresh (o := .dK (mergeK [] es)) f2
  exact k F2 rho2 _ _ s2 p2 R3 ⟨p, rfl, f3, _, upd_same, (Rk.merge rk .nil).1, (Rk.merge rk .nil).2⟩
end
/-! ### sorted(d), the dict laid down -/
def dkey : Key → D
  | .inl i => .int i
  | .inr s => .str s
inductive KeyV (H : Hp) : V → D → Prop
  | k (k : Key) : KeyV H (kV k) (dkey k)
  | t (ks : List Key) {q : Addr} : H q = some (.tup (ks.map kV)) → KeyV H (.ref q) (.tup (ks.map dkey))
/-- the keys, as values -/
def dkeys : D → Option (List D)
  | .dk kvs => some (kvs.map fun e => dkey e.1)
  | .dt kvs => some (kvs.map fun e => .tup (e.1.map dkey))
  | _ => none
def rSrtD (K : PySem.W.Frag) : List V → Hp → VK → Prop := fun vs H Q => ∃ (a : Addr) (o : Obj) (ks : List D), vs = [V.ref a] ∧
  ((∃ kvs : List (Key × V), H a = some (.frz o (.dK kvs)) ∧ ks = kvs.map fun e => dkey e.1) ∨ ∃ kvs : List (List Key × V), H a = some (.frz o (.dT kvs)) ∧ ks = kvs.map fun e => .tup (e.1.map dkey)) ∧
  AllAlike (ks.map pk) ∧ PySem.W.Sortable (ks.map pk) ∧ (∀ d ∈ ks, (pk d).depth ≤ 40) ∧ ks.length ≤ sizeLine ∧ ∀ ys p, EachIs (KeyV H) ys (srt pk ks) → H p = none → Q (.ref p) (upd H p (.lst ys))
theorem toP_key (k : Key) : O.toP (dkey k) = some (pk (dkey k)) := by
  cases k <;> rfl
theorem dp_key {K : PySem.W.Frag} {H : Hp} (k : Key) : Dp K H (kV k) (pk (dkey k)) := by
  cases k with
  | inl i => exact .int i
  | inr s => exact .str s
theorem dp_keys {K : PySem.W.Frag} {H : Hp} : ∀ (ks : List Key), DpAll K H (ks.map kV) (ks.map fun k => pk (dkey k))
  | [] => .nil
  | k :: ks => .cons (dp_key k) (dp_keys ks)
theorem toPs_keys : ∀ (ks : List Key), O.toPs (ks.map dkey) = some (ks.map fun k => pk (dkey k))
  | [] => rfl
  | k :: ks => by
    rw [List.map_cons, O.toPs, toP_key, toPs_keys ks]
    rfl
theorem pk_tup (ks : List Key) : pk (.tup (ks.map dkey)) = .tuple (ks.map fun k => pk (dkey k)) := by
  unfold pk
  rw [O.toP, toPs_keys]
  rfl
theorem KeyV.dp {K : PySem.W.Frag} {H : Hp} {v : V} {d : D} (h : KeyV H v d) : Dp K H v (pk d) := by
  cases h with
  | k k => exact dp_key k
  | t ks h =>
    rw [pk_tup]
    exact .tup (SqT.of h) (dp_keys ks)
theorem each_of_get {α β : Type} {R : α → β → Prop} : ∀ {as : List α} {bs : List β}, as.length = bs.length → (∀ (i : Nat) (a : α) (b : β), as[i]? = some a → bs[i]? = some b → R a b) → EachIs R as bs
  | [], [], _, _ => .nil
  | [], _ :: _, h, _ => by simp at h
  | _ :: _, [], h, _ => by simp at h
  | a :: as, b :: bs, h, k => .cons (k 0 a b rfl rfl) (each_of_get (by simpa using h) fun i x y h1 h2 => k (i + 1) x y (by simpa using h1) (by simpa using h2))
section
variable {X : Cx} {Tb : Tbs}
/-- the sort of the keys that were gathered -/
theorem srt_keys {ks : List D} {us : List Value} {s s0 : Shared} {pins : List (Addr × Obj)} {σ : L2.St} {H : Hp} {Q : VK} {h1 : Heap} {tk : Nat} (Iv : Inv X pins σ H s0) (hs : s = { s0 with heap := h1.push (seqObj "list" us.toArray 0), toks := tk }) (kp : ∀ b o, s0.heap.get? b = some o → h1.get? b = some o) (hu : X.A.units + 64 < cLine) (hge : s0.heap.objs.size ≤ h1.objs.size)
    (ea : EachIs (fun u d => ∃ x, RelV x u ∧ KeyV H x d) us ks) (hal : AllAlike (ks.map pk)) (hso : PySem.W.Sortable (ks.map pk)) (hdp : ∀ d ∈ ks, (pk d).depth ≤ 40) (hz : ks.length ≤ sizeLine) (q : ∀ ys p, EachIs (KeyV H) ys (srt pk ks) → H p = none → Q (.ref p) (upd H p (.lst ys))) :
    wpAny (model X.prog X.w) X.A.in1 (call (.builtin "list.sort") [.ref h1.objs.size]) (fun _ s2 => EP X pins σ Q (.ref h1.objs.size) s2) X.xe s := by
  subst hs
  have hp : (h1.push (seqObj "list" us.toArray 0)).get? h1.objs.size = some (seqObj "list" us.toArray 0) := Heap.get?_push_size _ rfl
  have kp2 : ∀ b o, s0.heap.get? b = some o → (h1.push (seqObj "list" us.toArray 0)).get? b = some o := fun b o e => Heap.get?_push_of_some _ (kp b o e)
  have ne : ∀ b o, s0.heap.get? b = some o → b ≠ h1.objs.size := fun b o e => Nat.ne_of_lt (Heap.lt_size (kp b o e))
  have rd : ∀ u d, (∃ x, RelV x u ∧ KeyV H x d) → ∃ as, Reads (h1.push (seqObj "list" us.toArray 0)) u (pk d) as ∧ h1.objs.size ∉ as := by
    rintro u d ⟨x, r, kv⟩
    obtain ⟨as, rr⟩ := Dp.reads Iv (pk d) x u kv.dp r
    exact ⟨as, PyProof.Rows.Reads.keeps kp2 rr, fun c => by
      obtain ⟨o, ho⟩ := PyProof.On.reads_mem_get rr _ c
      exact ne _ _ ho rfl⟩
  have er : EachIs (fun u d => ∃ as, Reads (h1.push (seqObj "list" us.toArray 0)) u (pk d) as ∧ h1.objs.size ∉ as) us ks := ea.mono rd
  refine list_sort_data (R := fun u d => ∃ x, RelV x u ∧ KeyV H x d) hp ea er hal hso hz (fun d hd => ?_) fun out hlen eo => ?_
  · have := hdp d hd
    show X.A.in1.units + 1 + _ < cLine
    have : X.A.in1.units = X.A.units + 1 := rfl
    omega
  · obtain ⟨ys, ry, ey⟩ := each_abs eo
    obtain ⟨c, hc⟩ := sortedHeap_at (vs := us) (out := List.toArray out) hp
    have yl : ys.length ≤ sizeLine := by rw [ry.length, hlen]; exact hz
    exact ⟨.ref _, upd H h1.objs.size (.lst ys), Iv.laid (fun b o e => by rw [sortedHeap_old (ne b o e) (Heap.lt_size (kp2 b o e))]; exact kp2 b o e) hge ⟨yl, out, c, ry, hc⟩, rfl, q _ _ ey (Iv.hok.fresh hge)⟩

/-- the keys of a dict are gathered; the heap has grown -/
theorem gather {prog : Program} {w : World} {A : Around} {E : Value → Shared → Prop} {s : Shared} {T : String} {r d : Addr} {n : Nat} {P : Nat → Value → Prop} {OK : Heap → Prop} {R : List Value → Shared → Prop} (K : KdlSrc prog w T r d n P OK) (hh : A.handled = none) (hok : OK s.heap) (hn : n ≤ sizeLine)
    (h : ∀ (h2 : Heap) (tk : Nat) (us : Array Value), (∀ b o, s.heap.get? b = some o → h2.get? b = some o) → s.heap.objs.size ≤ h2.objs.size → ItemsOf P us n → R us.toList { s with heap := h2, toks := tk }) : wpAny (model prog w) A (collect (.ref r)) R E s := by
  have there := K.there _ hok
  have top : (s.heap.push { cls := .type "list", data := .seq ([] : List Value).toArray }).get? s.heap.objs.size = some { cls := .type "list", data := .seq #[] } := Heap.get?_push_size _ rfl
  have old : ∀ b o, s.heap.get? b = some o → (s.heap.push { cls := .type "list", data := .seq ([] : List Value).toArray }).get? b = some o := fun b o e => Heap.get?_push_of_some _ e
  let W : Result → Shared → Prop := fun q s2 => ∃ (h2 : Heap) (tk : Nat) (us : Array Value) (c : Nat), q = .ok (.ret (.ref s.heap.objs.size)) ∧ s2 = { s with heap := h2, toks := tk } ∧ (∀ b o, s.heap.get? b = some o → h2.get? b = some o) ∧
    h2.get? s.heap.objs.size = some { cls := .type "list", dict := none, data := .seq us c, slots := #[] } ∧ ItemsOf P us n
  have fin : ∀ {q : Result} {s2 : Shared} {f : PySem.Flow}, W q s2 → q = .ok f → ∃ (h2 : Heap) (tk : Nat) (us : Array Value) (c : Nat), f = .ret (.ref s.heap.objs.size) ∧ s2 = { s with heap := h2, toks := tk } ∧ h2.get? s.heap.objs.size = some { cls := .type "list", dict := none, data := .seq us c, slots := #[] } ∧ R us.toList s2 := by
    rintro q s2 f ⟨h2, tk, us, c, rfl, rfl, kp, at2, it⟩ e
    cases e
    exact ⟨h2, tk, us, c, rfl, rfl, at2, h h2 tk us kp (Nat.le_of_lt (Heap.lt_size at2)) it⟩
  have loop := kdl_extend (A := A) (s := { s with heap := s.heap.push { cls := .type "list", data := .seq ([] : List Value).toArray } }) (R := W) K hh (K.keep _ _ hok fun b _ o e => old b o e) s.heap.objs.size (Nat.ne_of_gt there.1) (Nat.ne_of_gt there.2) (.ref s.heap.objs.size) 0 top
    (fun h2 tk us c kp at2 it => ⟨h2, tk, us, c, rfl, rfl, fun b o e => kp b o (Nat.ne_of_lt (Heap.lt_size e)) (old b o e), at2, it⟩) hn
  unfold collect
  apply wpAny_bind
  apply wpAny_runValue
  apply codeAny_builtin entry_proto_collect'
  rw [Around.under_plainId PySem.F.plain_proto_collect]
  show wpAny _ A.in1 (newList [] >>= fun l => again (.builtin "list.__iadd__" ⟨[l, .ref r], []⟩)) _ _ s
  apply wpAny_bind
  refine wpAny_newObj_type (wpAny_pure ⟨plainId_quiet PySem.F.plain_list_iadd _, ?_⟩)
  apply codeAny_builtin entry_list_iadd'
  rw [Around.under_plainId PySem.F.plain_list_iadd]
  show wpAny _ A.in1 (Builtin.List.listExtendWith (.ref s.heap.objs.size) (.ref r) (.ref s.heap.objs.size)) _ _ _
  refine wpAny_mono loop (fun g s2 x => ?_) fun e s2 x => ?_
  · cases g with
    | done f =>
      obtain ⟨h2, tk, us, c, rfl, rfl, at2, q⟩ := fin x rfl
      show wpAny _ A (load s.heap.objs.size >>= _) _ _ _
      exact wpAny_bind (wpAny_load at2 (wpAny_pure q))
    | again g =>
      refine ⟨x.1, codeAny_mono x.2 fun q s3 y => ?_⟩
      cases q with
      | error e =>
        obtain ⟨_, _, _, _, e, _⟩ := y
        cases e
      | ok f =>
        obtain ⟨h2, tk, us, c, rfl, rfl, at2, q⟩ := fin y rfl
        show wpAny _ A (load s.heap.objs.size >>= _) _ _ _
        exact wpAny_bind (wpAny_load at2 (wpAny_pure q))
  · obtain ⟨_, _, _, _, e, _⟩ := x
    cases e
theorem call_srtD (hc : X.calm = true) (hu : X.A.units + 64 < cLine) : CallR X (.builtin "sorted") (rSrtD X.K) := by
  intro pn st sg Hh args raws Qq Iv rr hyp
  obtain ⟨a, o, ks, rfl, src, hal, hso, hdp, hz, q⟩ := hyp
  rw [Vals.ref1 rr]
  have hh : X.A.handled = none := Iv.ok.hd hc
  have raw : (a == sysModules) = false ∧ ∃ (es : Array DictEntry) (ep : Nat), st.heap.DictRaw a es ep ∧ es.size = ks.length ∧ ∀ (i : Nat) (en : DictEntry) (d : D), es[i]? = some en → ks[i]? = some d → ∃ x, RelV x en.key ∧ KeyV Hh x d := by
    rcases src with ⟨kvs, e, rfl⟩ | ⟨kvs, e, rfl⟩
    · obtain ⟨h1, h2, h3, es, ep, vs, h4, h5, h6, h7⟩ := Iv.frzK e
      refine ⟨h1, es, ep, ⟨o, h2, h3, h4⟩, by rw [h5, List.length_map], fun i en d he hd => ?_⟩
      rw [List.getElem?_map] at hd
      cases hk : kvs[i]? with
      | none => rw [hk] at hd; cases hd
      | some kv =>
        rw [hk] at hd
        cases hd
        obtain ⟨es2, r1, r2, r3⟩ := Heap.DictAt.raw h7
        have r1' := r1
        obtain ⟨o2, g1, _, g3⟩ := r1'
        rw [h2] at g1
        cases g1
        rw [h4] at g3
        cases g3
        obtain ⟨u, hu1, hu2⟩ := kv_get h6 (show kvs[i]? = some (kv.1, kv.2) from hk)
        obtain ⟨hi, e2⟩ := Array.getElem?_eq_some_iff.mp he
        obtain ⟨m1, m2⟩ := r3 i hi kv.1 u hu1
        rw [e2] at m1
        exact ⟨_, relV_key m1, .k kv.1⟩
    · obtain ⟨h1, h2, h3, es, ep, h4, h5, h6⟩ := Iv.frzT e
      refine ⟨h1, es, ep, ⟨o, h2, h3, h4⟩, by rw [h5, List.length_map], fun i en d he hd => ?_⟩
      rw [List.getElem?_map] at hd
      cases hk : kvs[i]? with
      | none => rw [hk] at hd; cases hd
      | some kv =>
        rw [hk] at hd
        cases hd
        obtain ⟨en2, q2, g1, g2, g3⟩ := h6 i kv.1 kv.2 hk
        rw [he] at g1
        cases g1
        exact ⟨.ref q2, g2, .t kv.1 g3⟩
  obtain ⟨hs, es, ep, hr, hsz, hkey⟩ := raw
  apply PySem.Calls.call_function_entry kind_sorted plain_sorted entry_sorted (args_sorted1 _)
  unfold Builtin.«sorted»
  apply wpAny_bind (m := checkCount "sorted" 1 1 _)
  apply wpAny_pure
  apply wpAny_bind
  refine gather (A := X.A.in1) (KdlSrc.rawDict (es := es) (ep := ep) hs) hh hr (by omega) fun h2 tk us kp hge it => ?_
  have hl : us.toList.length = ks.length := by rw [Array.length_toList, it.1, hsz]
  have ea : EachIs (fun u d => ∃ x, RelV x u ∧ KeyV Hh x d) us.toList ks := by
    refine each_of_get hl fun i u d h1 h3 => ?_
    obtain ⟨hi, e⟩ := it.2 i u (by rw [← Array.getElem?_toList]; exact h1)
    refine hkey i es[i] d (Array.getElem?_eq_some_iff.mpr ⟨hi, rfl⟩) h3 |>.imp fun x hx => ?_
    rw [e]
    exact hx
  apply wpAny_bind
  refine wpAny_newList ?_ (by rw [hl]; exact hz)
  have fin := srt_keys (us := us.toList) (tk := tk) Iv rfl kp hu hge ea hal hso hdp hz q
  apply wpAny_bind
  apply wpAny_holding
  refine wpAny_mono fin (fun f s3 x => ?_) fun _ _ e => e
  exact wpAny_pure ⟨_, rfl, x⟩

end
namespace N
def sortedD (m : M D) : M (List D) := bnd m fun x z => match dkeys x with
  | some ks => if ks.length ≤ szl ∧ srtOk (ks.map pk) = true then some (srt pk ks, z) else none
  | none => none
/-- xs[::-1] -/
def rev (m : M D) : M (List D) := bnd m fun x z => match cont x z with
  | some (false, ds) => some (ds.reverse, z)
  | _ => none
end N
namespace I
/-- for k in d, the dict laid down -/
def seqK (a : M D) : M It := bnd a fun x z => match dkeys x with
  | some ks => some (⟨ks, none⟩, z)
  | none => none
end I
namespace E
/-- t[lo:hi], not the whole of it -/
def cutT (a : M D) (lo hi : Option (M D)) : M D := bnd a fun x => bnd (N.part lo) fun l => bnd (N.part hi) fun u z => match x with
  | .tup ds => if HT.sIx ds.length 0 l = 0 ∧ HT.sIx ds.length ds.length u = ds.length then none else some (.tup (N.cutL ds l u), z)
  | _ => none
end E
namespace O
/-- t + u, neither empty -/
def catT : D → D → Z → Option D
  | .tup ds, .tup es, _ => if ds ≠ [] ∧ es ≠ [] ∧ ds.length + es.length < szl then some (.tup (ds ++ es)) else none
  | _, _, _ => none
end O
theorem rp_key {K : Kx} {F : Hp} {rho : List Addr} (k : Key) : Rp K F rho (dkey k) (kV k) := by
  cases k with
  | inl i => exact .int i
  | inr s => exact .str s
theorem rps_keys {K : Kx} {F : Hp} {rho : List Addr} : ∀ (ks : List Key), Rps K F rho (ks.map dkey) (ks.map kV)
  | [] => .nil
  | k :: ks => .cons (rp_key k) (rps_keys ks)
theorem rk_keys {K : Kx} {F : Hp} {rho : List Addr} {κ : Type} {kvs : List (κ × D)} {es : List (κ × V)} (h : es.map Prod.fst = kvs.map Prod.fst) (f : κ → D) : (kvs.map fun e => f e.1) = es.map fun e => f e.1 := by
  have e1 : (kvs.map fun e => f e.1) = (kvs.map Prod.fst).map f := by rw [List.map_map]; rfl
  have e2 : (es.map fun e => f e.1) = (es.map Prod.fst).map f := by rw [List.map_map]; rfl
  rw [e1, e2, h]
/-- keys that were gathered are known from now on -/
theorem lay_keys {K : Kx} {B : Bs} {rho : List Addr} {om : Nat → Option Addr} {z : Z} {σ : L2.St} {H : Hp} : ∀ {ys : List V} {ds : List D} {F : Hp}, Rl K B F rho om z σ H → EachIs (KeyV H) ys ds → ∃ F', Rl K B F' rho om z σ H ∧ Same F F' ∧ Rps K F' rho ds ys
  | [], [], F, R, .nil => ⟨F, R, Same.refl _, .nil⟩
  | v :: ys, d :: ds, F, R, .cons h t => by
    cases h with
    | k k =>
      obtain ⟨F', R', s, r⟩ := lay_keys R t
      exact ⟨F', R', s, .cons (rp_key k) r⟩
    | t ks hq =>
      obtain ⟨F1, R1, s1, q1, _⟩ := R.layT hq
      obtain ⟨F', R', s, r⟩ := lay_keys R1 t
      exact ⟨F', R', s1.trans s, .cons (.tup (s _ _ q1) (rps_keys ks)) r⟩
theorem KeyV.upd {H : Hp} {p : Addr} {o : HO} (hp : H p = none) {v : V} {d : D} (h : KeyV H v d) : KeyV (upd H p o) v d := by
  cases h with
  | k k => exact .k k
  | t ks hq => exact .t ks (by rw [upd_ne (ne_of_none hq hp)]; exact hq)
section
variable {X : Cx} {Tb : Tbs}
theorem dkeys_ok {K : Kx} {F H : Hp} {rho : List Addr} {d : D} {v : V} {ks : List D} (s : Same F H) (r : Rp K F rho d v) (h : dkeys d = some ks) : ∃ (a : Addr) (o : Obj), v = .ref a ∧
    ((∃ kvs : List (Key × V), F a = some (.frz o (.dK kvs)) ∧ ks = kvs.map fun e => dkey e.1) ∨ ∃ kvs : List (List Key × V), F a = some (.frz o (.dT kvs)) ∧ ks = kvs.map fun e => .tup (e.1.map dkey)) := by
  cases r with
  | @dk a es kvs o h1 h2 h3 =>
    cases h
    exact ⟨a, o, rfl, .inl ⟨es, h1, rk_keys (K := K) (F := F) (rho := rho) h2 dkey⟩⟩
  | @dt a es kvs o h1 h2 h3 =>
    cases h
    exact ⟨a, o, rfl, .inr ⟨es, h1, rk_keys (K := K) (F := F) (rho := rho) h2 fun k => .tup (k.map dkey)⟩⟩
  | _ => cases h
theorem mf_sortedD {p pos : Pos} {e : Expr} {m : M D} (hc : X.calm = true) (hu : X.A.units + 64 < cLine) (hg : Gl X "sorted") (hm : X.mg "sorted" = none) (ha : PE X e (Te (kx X Tb) m)) (hv : bootBuiltins "sorted" = some (.builtin "sorted") := by decide +kernel)
    (he : starEach [e] X.env = (false, eval e X.env) :: starEach [] X.env := by rfl) (hpl : (backTo pos (starEach [] X.env)).any (·.1) = false := by rfl) : PE X (.Call (.Name "sorted" p) [e] [] pos) (Tf (kx X Tb) (N.sortedD m)) := by
  refine pe_imp (pe_callB (call_srtD hc hu) hg hm hv (pa_cons ha pa_nil he) (by decide) (by decide) he hpl) fun σ H Q ⟨B, F, rho, om, z, g⟩ => ?_
  refine (g.bnd.imp fun _ _ H1 _ _ v _ _ _ _ _ ⟨F2, rho2, z2, x, eg1, s1, p1, r1, g1⟩ => ?_).tx (R := rV (kx X Tb))
  obtain ⟨R, d, z4, e, k⟩ := g1
  dsimp only at e
  split at e
  · rename_i ks hk
    split at e
    · rename_i c
      cases e
      cases r1 with
      | own _ => cases hk
      | pure r1 =>
        obtain ⟨a, o, rfl, src⟩ := dkeys_ok R.rh.fro r1 hk
        obtain ⟨c1, c2⟩ := c
        unfold srtOk at c2
        rw [Bool.and_eq_true, Bool.and_eq_true] at c2
        refine ⟨a, o, ks, rfl, ?_, alikeB_ok c2.1.1, sortB_ok c2.1.2, fun d hd => of_decide_eq_true (List.all_eq_true.mp c2.2 _ (List.mem_map_of_mem hd)), Nat.le_trans c1 szl_line, fun ys l ey hl => ?_⟩
        · rcases src with ⟨kvs, h1, h2⟩ | ⟨kvs, h1, h2⟩
          · exact .inl ⟨kvs, R.rh.fro _ _ h1, h2⟩
          · exact .inr ⟨kvs, R.rh.fro _ _ h1, h2⟩
        · obtain ⟨F3, R3, s3, q3⟩ := lay_keys R ey
          obtain ⟨R4, f4⟩ := R3.new (o := .lst ys) hl
          exact k F3 rho2 _ _ s3 (List.prefix_refl _) R4 ⟨l, ys, rfl, upd_same, f4, q3⟩
    · cases e
  · cases e
theorem mi_seqK {tg l : Expr} {m : M D} (hl : PE X l (Te (kx X Tb) m)) : PI X tg l (Ti (kx X Tb) (I.seqK m)) := by
  refine pi_imp (pi_keys hl) fun σ H R ⟨B, F, rho, om, z, Rr, it, z', e, k⟩ => ?_
  obtain ⟨x, z1, e1, e2⟩ := bnd_some e
  refine ⟨B, F, rho, om, z, Rr, x, z1, e1, fun F1 rho1 H1 v s1 p1 R1 r1 => ?_⟩
  try dsimp only at e2
  split at e2
  · rename_i ks hk
    cases e2
    cases r1 with
    | own _ => cases hk
    | pure r1 =>
      obtain ⟨a, o, rfl, src⟩ := dkeys_ok R1.rh.fro r1 hk
      rcases src with ⟨kvs, h1, rfl⟩ | ⟨kvs, h1, rfl⟩
      · refine ⟨a, o, rfl, .inl ⟨kvs, R1.rh.fro _ _ h1, k F1 rho1 H1 _ s1 p1 R1 ?_⟩⟩
        intro B2 F2 rho2 om2 z2 σ2 H2 s p R2 _ _
        have at2 : H2 a = some (.frz o (.dK kvs)) := R2.rh.fro _ _ (s _ _ h1)
        refine ⟨fun i hi => ⟨at2, by simpa using hi⟩, fun i d hd => ?_⟩
        have hi : i < kvs.length := by
          have := (List.getElem?_eq_some_iff.mp hd).1
          simpa using this
        refine ⟨⟨at2, hi⟩, fun x H3 ⟨e, kk, v, h2, h3⟩ => ⟨e, F2, Same.refl _, fun _ _ _ _ n => n, R2, ?_⟩⟩
        have hd : (kvs.map fun e => dkey e.1)[i]? = some d := hd
        rw [List.getElem?_map, h2] at hd
        cases hd
        rw [h3]
        exact rp_key kk
      · refine ⟨a, o, rfl, .inr ⟨kvs, R1.rh.fro _ _ h1, k F1 rho1 H1 _ s1 p1 R1 ?_⟩⟩
        intro B2 F2 rho2 om2 z2 σ2 H2 s p R2 _ _
        have at2 : H2 a = some (.frz o (.dT kvs)) := R2.rh.fro _ _ (s _ _ h1)
        refine ⟨fun i hi => ⟨at2, by simpa using hi⟩, fun i d hd => ?_⟩
        have hi : i < kvs.length := by
          have := (List.getElem?_eq_some_iff.mp hd).1
          simpa using this
        refine ⟨⟨at2, hi⟩, fun x H3 ⟨e, kk, v, q, h2, h3, h4⟩ => ⟨e, ?_⟩⟩
        have hd : (kvs.map fun e => D.tup (e.1.map dkey))[i]? = some d := hd
        rw [List.getElem?_map, h2] at hd
        cases hd
        rw [h3]
        obtain ⟨F3, R3, s3, q3, n3⟩ := R2.layT h4
        exact ⟨F3, s3, n3, R3, .tup q3 (rps_keys kk)⟩
  · cases e2
theorem seqK_noOwn {m : M D} : noOwn (I.seqK m) := by
  intro z it z' j h
  obtain ⟨x, z1, e1, e2⟩ := bnd_some h
  intro q
  try dsimp only at e2
  split at e2
  · cases e2; cases q
  · cases e2
/-! ### xs[::-1] -/
theorem vals_app {xs ys : List V} {us ws : List Value} (h : Vals xs us) (g : Vals ys ws) : Vals (xs ++ ys) (us ++ ws) := by
  induction h with
  | nil => exact g
  | cons a t ih => exact .cons a ih
theorem vals_rev' {xs : List V} {us : List Value} (h : Vals xs us) : Vals xs.reverse us.reverse := by
  induction h with
  | nil => exact .nil
  | cons a t ih =>
    rw [List.reverse_cons, List.reverse_cons]
    exact vals_app ih (.cons a .nil)
theorem pe_rev {e : Expr} {te : TE} {p1 p2 p3 pos : Pos} {j} (he : PE X e te) : PE X (.Subscript e (.Slice none none (some (.UnaryOp .USub (.Constant (.int 1) j p1) p3)) p2) pos) fun σ H Q => te σ H fun x H1 => ∃ a xs, x = .ref a ∧ SqL X.K H1 a xs ∧ ∀ p, H1 p = none → Q (.ref p) (upd H1 p (.lst xs.reverse)) := by
  have hst : PE X (.UnaryOp .USub (.Constant (.int 1) j p1) p3) fun _ H Q => Q (.int (-1)) H := pe_imp (pe_un un_neg pe_int) fun σ H Q q => ⟨1, rfl, q⟩
  refine ⟨fun pins s σ H Q I h => ?_⟩
  refine Subscript_ (thn (he.run pins s σ H _ I h) fun v s1 ⟨x, H1, I1, r1, a, xs, ex, hx, q⟩ => ?_)
  subst ex
  have r1 : v = Value.ref a := r1
  rw [r1]
  apply wpAny_Slice
  rw [evalPart_none]
  apply wpAny_pure
  apply wpAny_pure
  rw [evalPart_some]
  refine thn (hst.run pins s1 σ H1 (fun w H2 => w = .int (-1) ∧ H2 = H1) I1 ⟨rfl, rfl⟩) fun u s3 ⟨w, H3, I3, rw3, e1, e2⟩ => ?_
  subst e1 e2
  obtain ⟨t, rfl⟩ := rw3
  have I4 : Inv X pins σ H3 { s3 with heap := s3.heap.push { cls := .type "slice", data := .fields #[.none, .none, .int (-1) t] } } := I3.kept (t' := s3.toks) fun b ob q => Heap.get?_push_of_some _ q
  obtain ⟨its, rv, p, hz0⟩ := I4.list hx
  have hz : its.length ≤ sizeLine := by rw [← rv.length]; exact hz0
  show wpAny (model X.prog X.w) X.A (subscriptTail e (.Slice none none (some (.UnaryOp .USub (.Constant (.int 1) j p1) p3)) p2) (.ref a) (.ref s3.heap.objs.size)) (EP X pins σ Q) X.xe { s3 with heap := s3.heap.push { cls := .type "slice", data := .fields #[.none, .none, .int (-1) t] } }
  refine tail_any (ops := [.ref a, .ref s3.heap.objs.size]) p.isList.typeIs list_getitem_lookup ?_ (by with_unfolding_all rfl)
  refine wpAny_getItem_list_slice (lo := none) (hi := none) (st := some (-1)) p.isList (Heap.IsSliceOf.new _ _ _ _) .none .none (.int (-1) t) (by decide) ?_ (by rw [List.size_toArray]; exact hz)
  rw [krv_pick]
  have hl : xs.reverse.length ≤ sizeLine := by rw [List.length_reverse, rv.length]; exact hz
  refine ⟨.ref _, _, I4.laid (o := .lst xs.reverse) (t' := s3.toks) (fun b ob q => Heap.get?_push_of_some _ q) (Nat.le_refl _) ⟨hl, its.reverse, 0, ?_, ?_⟩, rfl, q _ (I4.hok.fresh (Nat.le_refl _))⟩
  · exact vals_rev' rv
  · have e : (List.toArray its).toList.reverse = its.reverse := rfl
    rw [e]
    exact Heap.get?_push_size _ rfl
theorem mf_rev {e : Expr} {p1 p2 p3 pos : Pos} {j} {m : M D} (he : PE X e (Te (kx X Tb) m)) : PE X (.Subscript e (.Slice none none (some (.UnaryOp .USub (.Constant (.int 1) j p1) p3)) p2) pos) (Tf (kx X Tb) (N.rev m)) := by
  refine pe_imp (pe_rev he) fun σ H Q ⟨B, F, rho, om, z, g⟩ => ?_
  refine (g.bnd.imp fun _ _ H1 _ _ v _ _ _ _ _ ⟨F2, rho2, z2, x, eg1, s1, p1, r1, g1⟩ => ?_).tx (R := rV (kx X Tb))
  obtain ⟨R, d, z4, e, k⟩ := g1
  dsimp only at e
  split at e
  · rename_i ds hc
    cases e
    obtain ⟨a, xs, rfl, q, h⟩ := cont_ok R r1 hc
    rcases h with ⟨_, h⟩ | ⟨h8, _⟩
    · refine ⟨a, xs, rfl, h, fun p hp => ?_⟩
      obtain ⟨R2, f2⟩ := R.new (o := .lst xs.reverse) hp
      exact k F2 rho2 _ _ (Same.refl _) (List.prefix_refl _) R2 ⟨p, _, rfl, upd_same, f2, q.reverse⟩
    · cases h8
  · cases e
/-! ### t[lo:hi], t + u -/
theorem me_cutT {e : Expr} {lo hi : Option Expr} {p2 pos : Pos} {m : M D} {ml mh : Option (M D)} (he : PE X e (Te (kx X Tb) m)) (hl : PO X lo (To (kx X Tb) (N.part ml))) (hu : PO X hi (To (kx X Tb) (N.part mh))) : PE X (.Subscript e (.Slice lo hi none p2) pos) (Te (kx X Tb) (E.cutT m ml mh)) := by
  refine pe_imp (pe_slice sl_tup he hl hu) fun σ H Q ⟨B, F, rho, om, z, g⟩ => ?_
  refine (g.bnd.imp fun _ _ H1 _ _ v _ _ _ _ _ ⟨F2, rho2, z2, x, eg1, s1, p1, r1, g1⟩ => ?_).tx (R := rV (kx X Tb))
  refine (g1.bnd.imp fun _ _ H3 _ _ l _ _ _ _ _ ⟨F4, rho4, z4, l', eg2, s2, p2, r2, g2⟩ => ?_).tx (R := rO)
  refine (g2.bnd.imp fun _ _ H5 _ _ u _ _ _ _ _ ⟨F6, rho6, z6, u', eg3, s3, p3, r3, g3⟩ => ?_).tx (R := rO)
  have r2 : l = l' := r2
  have r3 : u = u' := r3
  subst r2 r3
  obtain ⟨R, d, z7, e, k⟩ := g3
  dsimp only at e
  split at e
  · rename_i ds
    split at e
    · cases e
    · rename_i hw
      cases e
      cases (r1.mono s2 p2).mono s3 p3 with
      | pure r =>
        cases r with
        | @tup a xs _ h q =>
          have hlen := q.length
          refine ⟨a, xs, rfl, SqT.of (R.rh.fro _ _ h), by rw [← hlen]; exact hw, fun p hp => ?_⟩
          obtain ⟨F7, R7, s7, q7⟩ := R.alloc (o := .tup (cutV xs l u)) hp
          exact k F7 rho6 _ _ s7 (List.prefix_refl _) R7 (.pure (.tup q7 ((cut_rps q l u).mono s7 (List.prefix_refl _))))
  · cases e
theorem o_catT : OpM X (binaryOp .Add) O.catT := by
  refine ⟨_, op_catT, ?_⟩
  intro Tb B F rho om z σ H x y xv yv d R rx ry e Q k
  unfold O.catT at e
  split at e
  · rename_i ds es
    split at e
    · rename_i c
      cases e
      cases rx with
      | pure rx =>
        cases rx with
        | @tup a xs _ h q =>
          cases ry with
          | pure ry =>
            cases ry with
            | @tup b ys _ h2 q2 =>
              have l1 := q.length
              have l2 := q2.length
              refine ⟨a, b, xs, ys, rfl, rfl, SqT.of (R.rh.fro _ _ h), SqT.of (R.rh.fro _ _ h2), ?_, ?_, fun e => ?_, fun _ p hp => ?_⟩
              · intro e
                subst e
                exact c.1 (List.length_eq_zero_iff.mp l1)
              · rw [← l1, ← l2]
                exact Nat.le_of_lt (szl_ok c.2.2)
              · subst e
                exact absurd (List.length_eq_zero_iff.mp l2) c.2.1
              · obtain ⟨F7, R7, s7, q7⟩ := R.alloc (o := .tup (xs ++ ys)) hp
                exact k F7 _ _ s7 R7 (.pure (.tup q7 ((q.append q2).mono s7 (List.prefix_refl _))))
    · cases e
  · cases e
end
end Mi

set_option Elab.async false
set_option linter.all false
set_option maxRecDepth 100000
/-! Mi, part M: working out dicts. -/
namespace Mi
open PySem PySem.Spec PyProof.Rows L2
section
variable {z z1 z2 z3 : Z} {a b c e : M D} {x y w d cc : D} {s s' : List Sl} {h h' : List D} {o : Option D}
theorem ev_dix (h1 : a z = some (x, z1)) (h2 : b z1 = some (y, z2)) (h3 : dcont x z2 = some cc) (h4 : dgetC cc y = some (some d)) : E.op O.dix a b z = some (d, z2) := ev_op h1 h2 (by unfold O.dix dget; rw [h3]; dsimp only; rw [h4])
theorem ev_din (h1 : a z = some (x, z1)) (h2 : b z1 = some (y, z2)) (h3 : dcont y z2 = some cc) (h4 : dgetC cc x = some o) : E.op O.din a b z = some (.bl o.isSome, z2) := ev_op h1 h2 (by unfold O.din dget; rw [h3]; dsimp only; rw [h4])
theorem ev_dnotIn (h1 : a z = some (x, z1)) (h2 : b z1 = some (y, z2)) (h3 : dcont y z2 = some cc) (h4 : dgetC cc x = some o) : E.op O.dnotIn a b z = some (.bl (!o.isSome), z2) := ev_op h1 h2 (by unfold O.dnotIn dget; rw [h3]; dsimp only; rw [h4])
theorem ev_get1 (h1 : a z = some (x, z1)) (h0 : (dcont x z1).isSome = true) (h2 : b z1 = some (y, z2)) (h3 : dcont x z2 = some cc) (h4 : dgetC cc y = some o) : E.get1 a b z = some (o.getD .non, z2) := by
  unfold E.get1
  rw [bnd_of h1]
  try dsimp only
  rw [if_pos h0, bnd_of h2]
  unfold dget
  rw [h3]
  dsimp only
  rw [h4]
theorem ev_get2 (h1 : a z = some (x, z1)) (h0 : (dcont x z1).isSome = true) (h2 : b z1 = some (y, z2)) (h5 : c z2 = some (w, z3)) (hw : isPure w = true) (h3 : dcont x z3 = some cc) (h4 : dgetC cc y = some o) : E.get2 a b c z = some (o.getD w, z3) := by
  unfold E.get2
  rw [bnd_of h1]
  try dsimp only
  rw [if_pos h0, bnd_of h2, bnd_of h5, if_pos hw]
  unfold dget
  rw [h3]
  dsimp only
  rw [h4]
theorem ev_shrN {m : M D} (h1 : m z = some (d, ⟨s, h⟩)) : E.shrN m z = some (.ref h.length, ⟨s, h ++ [d]⟩) := by
  unfold E.shrN
  rw [bnd_of h1]
theorem ev_frzD {m : M D} (h1 : m z = some (d, z1)) (h2 : C.isDict d = true) : E.frzD m z = some (d, z1) := by
  unfold E.frzD
  rw [bnd_of h1, if_pos h2]
  rfl
theorem ev_pairs0 : E.pairs [] z = some ([], z) := rfl
theorem ev_pairs {r : List (M D × M D)} {k : Key} {ps : List (Key × D)} (h1 : a z = some (x, z1)) (h2 : b z1 = some (y, z2)) (h3 : E.pairs r z2 = some (ps, z3)) (hk : keyD x = some k) (hp : isPure y = true) : E.pairs ((a, b) :: r) z = some ((k, y) :: ps, z3) := by
  show bnd a _ z = _
  rw [bnd_of h1, bnd_of h2, bnd_of h3, hk]
  dsimp only
  rw [if_pos hp]
  rfl
theorem ev_dispK {prs : List (M D × M D)} {ps : List (Key × D)} (h1 : E.pairs prs z = some (ps, z1)) : N.dispK prs z = some (.dk (mergeG [] ps), z1) := by
  unfold N.dispK
  rw [bnd_of h1]
  rfl
theorem ev_sortedD {ks : List D} (h1 : a z = some (x, z1)) (h2 : dkeys x = some ks) (h3 : ks.length ≤ szl) (h4 : srtOk (ks.map pk) = true) : N.sortedD a z = some (srt pk ks, z1) := by
  unfold N.sortedD
  rw [bnd_of h1, h2]
  dsimp only
  rw [if_pos ⟨h3, h4⟩]
theorem ev_rev {ds : List D} (h1 : a z = some (x, z1)) (h2 : cont x z1 = some (false, ds)) : N.rev a z = some (ds.reverse, z1) := by
  unfold N.rev
  rw [bnd_of h1, h2]
theorem ev_cutT {lo hi : Option (M D)} {l u : Option Int} {ds : List D} (h1 : a z = some (.tup ds, z1)) (h2 : N.part lo z1 = some (l, z2)) (h3 : N.part hi z2 = some (u, z3)) (h4 : ¬ (HT.sIx ds.length 0 l = 0 ∧ HT.sIx ds.length ds.length u = ds.length)) : E.cutT a lo hi z = some (.tup (N.cutL ds l u), z3) := by
  unfold E.cutT
  rw [bnd_of h1, bnd_of h2, bnd_of h3]
  dsimp only
  rw [if_neg h4]
theorem ev_catT {ds es : List D} (h1 : a z = some (.tup ds, z1)) (h2 : b z1 = some (.tup es, z2)) (h3 : ds ≠ []) (h4 : es ≠ []) (h5 : ds.length + es.length < szl) : E.op O.catT a b z = some (.tup (ds ++ es), z2) := ev_op h1 h2 (by unfold O.catT; exact if_pos ⟨h3, h4, h5⟩)
theorem ev_seqK {ks : List D} (h1 : a z = some (x, z1)) (h2 : dkeys x = some ks) : I.seqK a z = some (⟨ks, none⟩, z1) := by
  unfold I.seqK
  rw [bnd_of h1, h2]
theorem ev_seqR {n : Nat} {t : Bool} {xs : List D} (h1 : a z = some (.ref n, z1)) (h2 : cont (.ref n) z1 = some (t, xs)) : I.seq a z = some (⟨xs, some (.ref n)⟩, z1) := by
  unfold I.seq
  rw [bnd_of h1]
  dsimp only
  rw [h2]
theorem ev_seqCR {n : Nat} {t : Bool} {xs : List D} (h1 : a z = some (.ref n, z1)) (h2 : cont (.ref n) z1 = some (t, xs)) : I.seqC a z = some (⟨xs, some (.ref n)⟩, z1) := by
  unfold I.seqC
  rw [bnd_of h1]
  show (match cont (.ref n) z1 with | some (_, xs) => some ((⟨xs, some (.ref n)⟩ : It), z1) | none => none) = _
  rw [h2]
/-! leaves -/
theorem lf_dcont {r : Option D} (q : dcont x z = r) : dcont x z = r := q
theorem lf_dcS {r : Bool} (q : (dcont x z).isSome = r) : (dcont x z).isSome = r := q
theorem lf_dgetC {r : Option (Option D)} (q : dgetC x y = r) : dgetC x y = r := q
theorem lf_keyD {r : Option Key} (q : keyD x = r) : keyD x = r := q
theorem lf_isDict {r : Bool} (q : C.isDict x = r) : C.isDict x = r := q
theorem lf_dkeys {r : Option (List D)} (q : dkeys x = r) : dkeys x = r := q
/-! statements -/
theorem cs_dputO {n : Nat} {c' v : D} (h1 : e z = some (v, z1)) (h2 : a z1 = some (.own n, z2)) (h3 : b z2 = some (y, ⟨s, h⟩)) (h4 : s[n]? = some (.own cc)) (h5 : dputC cc y v = some c') (hp : isPure v = true) (hs : s.set n (.own c') = s') : C.dput a b e z = some (.nx, ⟨s', h⟩) := by
  subst hs
  unfold C.dput
  rw [bnd_of h1, bnd_of h2, bnd_of h3, if_pos hp]
  dsimp only
  rw [h4]
  dsimp only
  rw [h5]
theorem cs_dputR {n : Nat} {c' v : D} (h1 : e z = some (v, z1)) (h2 : a z1 = some (.ref n, z2)) (h3 : b z2 = some (y, ⟨s, h⟩)) (h4 : h[n]? = some cc) (h5 : dputC cc y v = some c') (hp : isPure v = true) : C.dput a b e z = some (.nx, ⟨s, h.set n c'⟩) := by
  unfold C.dput
  rw [bnd_of h1, bnd_of h2, bnd_of h3, if_pos hp]
  dsimp only
  rw [h4]
  dsimp only
  rw [h5]
theorem cs_ownD {n : Nat} {m : M D} (h1 : m z = some (d, ⟨s, h⟩)) (hl : n < s.length) (hs : s.set n (.own d) = s') : C.ownN n m z = some (.nx, ⟨s', h⟩) := by
  subst hs
  unfold C.ownN
  rw [bnd_of h1]
  exact if_pos hl
theorem cs_frzD {n : Nat} (h1 : s[n]? = some (.own d)) (h2 : C.isDict d = true) (hs : s.set n (.val d) = s') : C.frzD n ⟨s, h⟩ = some (.nx, ⟨s', h⟩) := by
  subst hs
  unfold C.frzD
  dsimp only
  rw [h1]
  dsimp only
  rw [if_pos h2]
theorem cs_retD {n : Nat} (h1 : e z = some (.own n, ⟨s, h⟩)) (h2 : s[n]? = some (.own d)) (h3 : C.isDict d = true) : C.retD e z = some (.rt d, ⟨s.set n .no, h⟩) := by
  unfold C.retD
  rw [bnd_of h1]
  dsimp only
  rw [h2]
  dsimp only
  rw [if_pos h3]
theorem cs_retR {n : Nat} (h1 : e z = some (.own n, ⟨s, h⟩)) (h2 : s[n]? = some (.own d)) : C.retR e z = some (.rt (.ref h.length), ⟨s.set n .no, h ++ [d]⟩) := by
  unfold C.retR
  rw [bnd_of h1]
  dsimp only
  rw [h2]
/-- a walk over a list that may change, but does not -/
theorem Dz.loopC {bb : C} {Φ : Fl → Z → Prop} {it : It} {g : G} (I : List D → Z → Prop) (hk : ∀ ds z, I ds z → it.ok z = true) (step : ∀ d ds z, I (d :: ds) z → ∃ z1, g.run d z = some z1 ∧ Dz bb z1 (turn (I ds) Φ)) (fin : ∀ z, I [] z → Φ .nx z) : ∀ (ds : List D) (z : Z), I ds z → Dz (C.loop it g bb ds) z Φ
  | [], z, hh => by
    refine ⟨.nx, z, ?_, fin z hh⟩
    show (if it.ok z = true then some (Fl.nx, z) else none) = _
    rw [if_pos (hk _ _ hh)]
  | d :: ds, z, hh => by
    obtain ⟨z1, e1, f, z2, e2, q⟩ := step d ds z hh
    cases f with
    | nx =>
      obtain ⟨f3, z3, e3, q3⟩ := Dz.loopC I hk step fin ds z2 q
      refine ⟨f3, z3, ?_, q3⟩
      unfold C.loop
      rw [if_pos (hk _ _ hh), e1]
      dsimp only
      rw [e2]
      exact e3
    | ct =>
      obtain ⟨f3, z3, e3, q3⟩ := Dz.loopC I hk step fin ds z2 q
      refine ⟨f3, z3, ?_, q3⟩
      unfold C.loop
      rw [if_pos (hk _ _ hh), e1]
      dsimp only
      rw [e2]
      exact e3
    | bk =>
      refine ⟨_, _, ?_, q⟩
      unfold C.loop
      rw [if_pos (hk _ _ hh), e1]
      dsimp only
      rw [e2]
    | rt d =>
      refine ⟨_, _, ?_, q⟩
      unfold C.loop
      rw [if_pos (hk _ _ hh), e1]
      dsimp only
      rw [e2]
theorem Dz.forC {bb : C} {Φ : Fl → Z → Prop} {mi : M It} {it : It} {g : G} (h1 : mi z = some (it, z1)) (I : List D → Z → Prop) (hk : ∀ ds z, I ds z → it.ok z = true) (h0 : I it.items z1) (step : ∀ d ds z, I (d :: ds) z → ∃ z1, g.run d z = some z1 ∧ Dz bb z1 (turn (I ds) Φ)) (fin : ∀ z, I [] z → Φ .nx z) : Dz (C.for_ mi g bb) z Φ := by
  obtain ⟨f, z2, e, q⟩ := Dz.loopC I hk step fin it.items z1 h0
  refine ⟨f, z2, ?_, q⟩
  unfold C.for_
  rw [bnd_of h1]
  exact e
theorem Dz.fnE {n k : Nat} {ds h : List D} {d : D} {h' : List D} {c : C} (hl : ds.length = k) (hb : Dz c ⟨slots n ds, h⟩ fun f z => match f with | .nx => d = .non ∧ z.h = h' | .rt x => x = d ∧ z.h = h' | _ => False) : Mi.fn n k c ds h = some (d, h') := by
  obtain ⟨x, h2, e, e1, e2⟩ := Dz.fn (n := n) (k := k) (R := fun x h2 => x = d ∧ h2 = h') hl (hb.imp fun f z q => by
    cases f with
    | nx => exact ⟨q.1.symm, q.2⟩
    | rt x => exact q
    | bk => exact q
    | ct => exact q)
  rw [e, e1, e2]
theorem eqP_str2 {x y : Str} {z : Z} : O.eqP (.str x) (.str y) z = some (decide (x = y)) := rfl
/-- equal data are equal -/
theorem eqP_self {x y : D} {p : PyData} (h1 : O.toP (O.snap x z) = some p) (h2 : O.toP (O.snap y z) = some p) (h3 : SeqAt.shaped p = true) : O.eqP x y z = some true := by
  have e : O.eqD x y z = some true := by
    unfold O.eqD
    rw [h1, h2]
    dsimp only
    have h4 : p.canLay0 = true := by
      unfold SeqAt.shaped at h3
      simp only [Bool.and_eq_true] at h3
      exact h3.1
    rw [if_pos ⟨h3, h3⟩, SeqAt.eqv_refl _ h4]
  unfold O.eqP
  split
  · rename_i a b
    have h1 : some (PyData.str a) = some p := h1
    have h2 : some (PyData.str b) = some p := h2
    rw [← h1] at h2
    cases h2
    simp
  · exact e

/-! [[] for _ in xs]: so many new lists of the shared heap -/
theorem loop_shr {it : It} (hk : it.chk = none) (v : Nat) (s : List Sl) (hs : s.set v .no = s) : ∀ (ds acc h : List D), N.loop it (G.nm v) [v] (Mi.ret true) (E.shr (N.disp [])) ds acc ⟨s, h⟩ = some (acc ++ (List.range ds.length).map (fun i => D.ref (h.length + i)), ⟨s, h ++ List.replicate ds.length (.lst [])⟩)
  | [], acc, h => by
    have ok : it.ok ⟨s, h⟩ = true := by unfold It.ok; rw [hk]
    rw [nl_nil ok]
    simp
  | d :: ds, acc, h => by
    have ok : it.ok ⟨s, h⟩ = true := by unfold It.ok; rw [hk]
    have ih := loop_shr hk v s hs ds (acc ++ [.ref h.length]) (h ++ [.lst []])
    have e := nl_t (tt := Mi.ret true) (te := E.shr (N.disp [])) (acc := acc) (ds := ds) (d := d) (g := G.nm v) (vs := [v]) (z1 := ⟨s.set v (.val d), h⟩) (z2 := ⟨s.set v (.val d), h⟩) (z3 := ⟨s.set v (.val d), h ++ [.lst []]⟩) (x := .ref h.length) ok rfl rfl (ev_shr (ev_disp ev_args0)) rfl rfl
    have ew : N.wipe (s.set v (.val d)) [v] = s := by
      show (s.set v (.val d)).set v .no = s
      rw [List.set_set, hs]
    rw [e]
    dsimp only
    rw [ew, ih]
    rw [List.length_cons, List.range_succ_eq_map, List.map_cons, List.map_map, List.append_assoc, List.append_assoc, List.length_append, List.length_singleton, List.replicate_succ]
    congr 3
    · simp only [List.singleton_append, Nat.add_zero]
      congr 1
      refine List.map_congr_left fun i _ => ?_
      show D.ref (h.length + 1 + i) = D.ref (h.length + (i + 1))
      congr 1
      omega
theorem comp_shr {mi : M It} {it : It} {v : Nat} {s : List Sl} {h : List D} {x0 : Sl} (h1 : mi ⟨s, h⟩ = some (it, ⟨s, h⟩)) (hk : it.chk = none) (hl : it.items.length ≤ szl) (hv : s[v]? = some x0) (ho : N.isOwn (some x0) = false) :
    N.comp mi (G.nm v) [v] (Mi.ret true) (E.shr (N.disp [])) ⟨s, h⟩ = some ((List.range it.items.length).map (fun i => D.ref (h.length + i)), ⟨s, h ++ List.replicate it.items.length (.lst [])⟩) := by
  have hvl := (List.getElem?_eq_some_iff.mp hv).1
  have e := ev_comp (g := G.nm v) (vs := [v]) (tt := Mi.ret true) (te := E.shr (N.disp [])) h1 hl (by show (!N.isOwn s[v]? && true) = true; rw [hv, ho]; rfl) (loop_shr hk v (s.set v .no) (by rw [List.set_set]) it.items [] h)
  rw [e]
  have er : N.rest s (s.set v .no) [v] = s := by
    show (match s[v]? with | some x => (s.set v .no).set v x | none => s.set v .no) = s
    rw [hv]
    dsimp only
    rw [List.set_set]
    refine List.ext_getElem? fun j => ?_
    by_cases c : v = j
    · subst c
      rw [List.getElem?_set_self hvl, hv]
    · rw [List.getElem?_set_ne c]
  rw [List.nil_append, er]
/-- a heap's part by a function -/
def tabH (n : Nat) (f : Nat → D) : List D := (List.range n).map f
theorem tabH_get {n i : Nat} {h : List D} {f : Nat → D} (hi : i < n) : (h ++ tabH n f)[h.length + i]? = some (f i) := by
  unfold tabH
  rw [List.getElem?_append_right (Nat.le_add_right _ _), Nat.add_sub_cancel_left, List.getElem?_map, List.getElem?_range hi]
  rfl
theorem tabH_set {n i : Nat} {h : List D} {f : Nat → D} {y : D} : (h ++ tabH n f).set (h.length + i) y = h ++ tabH n fun j => if j = i then y else f j := by
  rw [List.set_append_right _ _ (Nat.le_add_right _ _), Nat.add_sub_cancel_left]
  congr 1
  unfold tabH
  refine List.ext_getElem? fun j => ?_
  rw [List.getElem?_set, List.getElem?_map, List.getElem?_map, List.length_map, List.length_range]
  by_cases hj : j < n
  · rw [List.getElem?_range hj]
    by_cases c : i = j
    · subst c
      simp [hj]
    · rw [if_neg c]
      have : ¬ j = i := fun q => c q.symm
      simp [this]
  · rw [List.getElem?_eq_none (by simpa using hj)]
    by_cases c : i = j
    · subst c
      simp [hj]
    · rw [if_neg c]
      rfl
theorem tabH_congr {n : Nat} {f g : Nat → D} (h : ∀ j, j < n → f j = g j) : tabH n f = tabH n g := by
  unfold tabH
  exact List.map_congr_left fun j hj => h j (List.mem_range.mp hj)
theorem tabH_rep {n : Nat} : List.replicate n (D.lst []) = tabH n fun _ => .lst [] := by
  unfold tabH
  rw [List.map_const', List.length_range]

end
/-! data that can be compared by == -/
def Shd (d : D) (dep : Nat) : Prop := ∃ p, O.toP d = some p ∧ p.canLay0 = true ∧ p.depth ≤ dep
theorem Shd.mono {d : D} {a b : Nat} (h : Shd d a) (hab : a ≤ b) : Shd d b := by
  obtain ⟨p, h1, h2, h3⟩ := h
  exact ⟨p, h1, h2, Nat.le_trans h3 hab⟩
theorem Shd.int {i : Int} {n : Nat} : Shd (.int i) n := ⟨.int i, rfl, by simp [PyData.canLay0], by simp [PyData.depth]⟩
theorem Shd.bl {i : Bool} {n : Nat} : Shd (.bl i) n := ⟨.bool i, rfl, by simp [PyData.canLay0], by simp [PyData.depth]⟩
theorem Shd.non {n : Nat} : Shd .non n := ⟨.none, rfl, by simp [PyData.canLay0], by simp [PyData.depth]⟩
def ShdAll (ds : List D) (dep : Nat) : Prop := ∃ ps, O.toPs ds = some ps ∧ PyData.canLayAll0 ps = true ∧ PyData.depthAll ps ≤ dep
theorem ShdAll.of {dep : Nat} : ∀ {ds : List D}, (∀ d ∈ ds, Shd d dep) → ShdAll ds dep
  | [], _ => ⟨[], rfl, by simp [PyData.canLayAll0], by simp [PyData.depthAll]⟩
  | d :: ds, h => by
    obtain ⟨p, h1, h2, h3⟩ := h d List.mem_cons_self
    obtain ⟨ps, g1, g2, g3⟩ := ShdAll.of (ds := ds) fun x hx => h x (List.mem_cons_of_mem _ hx)
    refine ⟨p :: ps, by rw [O.toPs, h1, g1], by simp [PyData.canLayAll0, h2, g2], ?_⟩
    simp only [PyData.depthAll]
    omega
theorem Shd.lst {ds : List D} {dep : Nat} (h : ∀ d ∈ ds, Shd d dep) : Shd (.lst ds) (dep + 1) := by
  obtain ⟨ps, g1, g2, g3⟩ := ShdAll.of h
  refine ⟨.list ps, by rw [O.toP, g1]; rfl, by simpa [PyData.canLay0] using g2, ?_⟩
  simp only [PyData.depth]
  omega
theorem Shd.tup {ds : List D} {dep : Nat} (h : ∀ d ∈ ds, Shd d dep) : Shd (.tup ds) (dep + 1) := by
  obtain ⟨ps, g1, g2, g3⟩ := ShdAll.of h
  refine ⟨.tuple ps, by rw [O.toP, g1]; rfl, by simpa [PyData.canLay0] using g2, ?_⟩
  simp only [PyData.depth]
  omega
/-- x == x -/
theorem Shd.eqP {x y d : D} {z : Z} (h : Shd d 64) (hx : O.snap x z = d) (hy : O.snap y z = d) : O.eqP x y z = some true := by
  obtain ⟨p, h1, h2, h3⟩ := h
  exact eqP_self (p := p) (by rw [hx, h1]) (by rw [hy, h1]) (by unfold SeqAt.shaped; rw [h2, decide_eq_true h3]; rfl)
/-! sorted lists of ints -/
theorem srtOk_ints (ns : List Int) : srtOk ((ns.map D.int).map pk) = true := by
  have e : ∀ p ∈ (ns.map D.int).map pk, ∃ i, p = PyData.int i := fun p hp => by
    obtain ⟨d, hd, rfl⟩ := List.mem_map.mp hp
    obtain ⟨i, _, rfl⟩ := List.mem_map.mp hd
    exact ⟨i, rfl⟩
  unfold srtOk alikeB sortB
  rw [Bool.and_eq_true, Bool.and_eq_true]
  refine ⟨⟨List.all_eq_true.mpr fun p hp => List.all_eq_true.mpr fun q hq => ?_, ?_⟩, List.all_eq_true.mpr fun p hp => ?_⟩
  · obtain ⟨i, rfl⟩ := e p hp
    obtain ⟨j, rfl⟩ := e q hq
    simp [PySem.W.alike]
  · rw [Bool.or_eq_true]
    refine .inr (List.all_eq_true.mpr fun p hp => ?_)
    obtain ⟨i, rfl⟩ := e p hp
    rfl
  · obtain ⟨i, rfl⟩ := e p hp
    simp [PyData.depth]
theorem srt_mem {k : D → PyData} {ds : List D} {d : D} : d ∈ srt k ds ↔ d ∈ ds := List.mem_mergeSort
theorem srt_len {k : D → PyData} {ds : List D} : (srt k ds).length = ds.length := List.length_mergeSort _
section
end
end Mi

set_option Elab.async false
set_option linter.all false
set_option maxRecDepth 100000
/-! Mi, part N: more rules for walking. -/
namespace Mi
open PySem L2
section
variable {x y d : D} {z z1 z2 z3 : Z} {s s' s2 : List Sl} {h h2 : List D}
/-- a list made of a list, nothing else changed -/
theorem ev_compP {mi : M It} {xs : List D} {g : G} {vs : List Nat} {tt : M Bool} {te : M D} (fl : D → Bool) (fe : D → D) (h1 : mi z = some (⟨xs, none⟩, ⟨s, h⟩)) (hl : xs.length ≤ szl) (ho : (vs.all fun v => !N.isOwn s[v]?) = true) (hw : N.wipe s vs = s')
    (step : ∀ d ∈ xs, ∃ z1 z2 z3, g.run d ⟨s', h⟩ = some z1 ∧ tt z1 = some (fl d, z2) ∧ (fl d = true → te z2 = some (fe d, z3) ∧ isPure (fe d) = true) ∧ (fl d = true → (⟨N.wipe z3.s vs, z3.h⟩ : Z) = ⟨s', h⟩) ∧ (fl d = false → (⟨N.wipe z2.s vs, z2.h⟩ : Z) = ⟨s', h⟩)) (hr : N.rest s s' vs = s2) : N.comp mi g vs tt te z = some ((xs.filter fl).map fe, ⟨s2, h⟩) := by
  have e := comp_loop (it := ⟨xs, none⟩) rfl fl fe ⟨s', h⟩ step xs [] fun d h => h
  rw [List.nil_append] at e
  exact ev_compN h1 hl ho hw e hr
/-- .. where each item is drawn, say: the state goes on -/
theorem ev_compS {mi : M It} {xs : List D} {g : G} {vs : List Nat} {te : M D} (P : List D → List D → Z → Prop) (h1 : mi z = some (⟨xs, none⟩, ⟨s, h⟩)) (hl : xs.length ≤ szl) (ho : (vs.all fun v => !N.isOwn s[v]?) = true) (hw : N.wipe s vs = s') (h0 : P xs [] ⟨s', h⟩)
    (step : ∀ d ds acc z, P (d :: ds) acc z → ∃ z1 x z3, g.run d z = some z1 ∧ te z1 = some (x, z3) ∧ isPure x = true ∧ P ds (acc ++ [x]) ⟨N.wipe z3.s vs, z3.h⟩) : ∃ r z', P [] r z' ∧ N.comp mi g vs (Mi.ret true) te z = some (r, ⟨N.rest s z'.s vs, z'.h⟩) := by
  obtain ⟨r, z', e, p⟩ := comp_inv (it := ⟨xs, none⟩) (g := g) (vs := vs) (tt := Mi.ret true) (te := te) rfl P (fun d ds acc z hp => by
    obtain ⟨z1, x, z3, a, b, c, q⟩ := step d ds acc z hp
    exact ⟨z1, z1, a, .inr ⟨x, z3, rfl, b, c, q⟩⟩) xs [] _ h0
  exact ⟨r, z', p, ev_compN h1 hl ho hw e rfl⟩
section
variable {t u : M Bool} {q : Bool}
theorem tt_orT (h1 : t z = some (true, z1)) : T.or t u z = some (true, z1) := by unfold T.or; rw [bnd_of h1]; rfl
theorem tt_orF (h1 : t z = some (false, z1)) (h2 : u z1 = some (q, z2)) : T.or t u z = some (q, z2) := by unfold T.or; rw [bnd_of h1]; exact h2
theorem tt_andF (h1 : t z = some (false, z1)) : T.and t u z = some (false, z1) := by unfold T.and; rw [bnd_of h1]; rfl
theorem tt_andT (h1 : t z = some (true, z1)) (h2 : u z1 = some (q, z2)) : T.and t u z = some (q, z2) := by unfold T.and; rw [bnd_of h1]; exact h2
end
theorem at_lastN {xs : List D} {x : D} : atI (xs ++ [x]) (-1) = some x := by
  have e : ixN (xs ++ [x]).length (-1) = some xs.length := by
    unfold ixN
    rw [if_neg (by decide), List.length_append, List.length_singleton, if_pos (by omega)]
    congr 1
    omega
  unfold atI
  rw [e]
  show (xs ++ [x])[xs.length]? = _
  rw [List.getElem?_append_right (Nat.le_refl _), Nat.sub_self]
  rfl
theorem at_lastI {xs : List D} {x : D} {i : Int} (hi : i = (xs.length : Int)) : atI (xs ++ [x]) i = some x := by
  subst hi
  refine atI_nat ?_
  rw [List.getElem?_append_right (Nat.le_refl _), Nat.sub_self]
  rfl
theorem Rep.str {s : Str} {n : Nat} (h1 : (s.cps.toList.all fun c => decide (c < 16 ^ 8)) = true) (h2 : s.cps.size ≤ n) : Rep (.str s) 0 n :=
  ⟨.str s, rfl, by simp [PyData.showable], by simp [PyData.hasDict], by simp [PyData.depth], by rw [PyData.leavesShort]; exact h1, by simpa [PyData.weight] using h2⟩
theorem eqP_str {x : Str} {z : Z} : O.eqP (.str x) (.str x) z = some true := by
  show some (decide (x = x)) = some true
  simp
theorem Shd.str {s : Str} {n : Nat} (h : (PyData.str s).canLay0 = true) : Shd (.str s) n := ⟨.str s, rfl, h, by simp [PyData.depth]⟩
theorem Shd.nat {i : Nat} {n : Nat} : Shd (.int i) n := Shd.int
end
/-! ### a, b = x, y -/
def C.par2 (i j : Nat) (a b : M D) : C := bnd (E.args [a, b]) fun ds z => match ds with
  | [x, y] => some (.nx, ⟨(z.s.set i (.val x)).set j (.val y), z.h⟩)
  | _ => none
def C.par3 (i j l : Nat) (a b c : M D) : C := bnd (E.args [a, b, c]) fun ds z => match ds with
  | [x, y, w] => some (.nx, ⟨((z.s.set i (.val x)).set j (.val y)).set l (.val w), z.h⟩)
  | _ => none
section
variable {X : Cx} {Tb : Tbs}
theorem ms_par2 {i j : Nat} {x y : Str} {a b : Expr} {ma mb : M D} {px py pt pos : Pos} {kt k2 pt2} (hc : X.calm = true) (hN : X.N.Nodup) (ha : PA X [a, b] (Ta (kx X Tb) (E.args [ma, mb])))
    (hw : swappedStores [.Tuple [.Name x px, .Name y py] kt pt] (.Tuple [a, b] k2 pt2) X.env = pure (some [x, y])) (hi : X.N[i]? = some x := by rfl) (hj : X.N[j]? = some y := by rfl) (hij : i ≠ j := by decide)
    (hx : X.env.scope.names.lookup x = some .local := by rfl) (hy : X.env.scope.names.lookup y = some .local := by rfl)
    (hs : swapsWithSole [.Tuple [.Name x px, .Name y py] kt pt] (.Tuple [a, b] k2 pt2) pos.line X.env = pure false := by rfl) :
    PS X (.Assign [.Tuple [.Name x px, .Name y py] kt pt] (.Tuple [a, b] k2 pt2) pos) (Ts (kx X Tb) (C.par2 i j ma mb)) := by
  refine ps_imp (ps_par hc hN hi hj hij hx hy ha hw hs) fun D σ H ⟨B, F, rho, om, z, R, f, z', e, k⟩ => ?_
  obtain ⟨ds, z1, e1, e2⟩ := bnd_some e
  refine ⟨B, F, rho, om, z, R, ds, z1, e1, fun F1 rho1 H1 vs s p R1 r1 => ?_⟩
  split at e2
  · cases e2
    cases r1 with
    | cons p1 q1 => cases q1 with
      | cons p2 q2 =>
        cases q2
        exact ⟨_, _, rfl, k F1 rho1 _ _ H1 s p ((R1.setVal i p1).setVal j p2)⟩
  · cases e2
theorem ms_par3 {i j l : Nat} {x y w : Str} {a b c : Expr} {ma mb mc : M D} {px py pw pt pos : Pos} {kt k2 pt2} (hc : X.calm = true) (hN : X.N.Nodup) (ha : PA X [a, b, c] (Ta (kx X Tb) (E.args [ma, mb, mc])))
    (hw : swappedStores [.Tuple [.Name x px, .Name y py, .Name w pw] kt pt] (.Tuple [a, b, c] k2 pt2) X.env = pure (some [x, y, w])) (hi : X.N[i]? = some x := by rfl) (hj : X.N[j]? = some y := by rfl) (hl : X.N[l]? = some w := by rfl) (hij : i ≠ j := by decide) (hil : i ≠ l := by decide) (hjl : j ≠ l := by decide)
    (hx : X.env.scope.names.lookup x = some .local := by rfl) (hy : X.env.scope.names.lookup y = some .local := by rfl) (hz : X.env.scope.names.lookup w = some .local := by rfl)
    (hs : swapsWithSole [.Tuple [.Name x px, .Name y py, .Name w pw] kt pt] (.Tuple [a, b, c] k2 pt2) pos.line X.env = pure false := by rfl) :
    PS X (.Assign [.Tuple [.Name x px, .Name y py, .Name w pw] kt pt] (.Tuple [a, b, c] k2 pt2) pos) (Ts (kx X Tb) (C.par3 i j l ma mb mc)) := by
  refine ps_imp (ps_par3 hc hN hi hj hl hij hil hjl hx hy hz ha hw hs) fun D σ H ⟨B, F, rho, om, z, R, f, z', e, k⟩ => ?_
  obtain ⟨ds, z1, e1, e2⟩ := bnd_some e
  refine ⟨B, F, rho, om, z, R, ds, z1, e1, fun F1 rho1 H1 vs s p R1 r1 => ?_⟩
  split at e2
  · cases e2
    cases r1 with
    | cons p1 q1 => cases q1 with
      | cons p2 q2 => cases q2 with
        | cons p3 q3 =>
          cases q3
          exact ⟨_, _, _, rfl, k F1 rho1 _ _ H1 s p (((R1.setVal i p1).setVal j p2).setVal l p3)⟩
  · cases e2
end
theorem cs_par2 {i j : Nat} {a b : M D} {x y : D} {z : Z} {s s' : List Sl} {h : List D} (h1 : E.args [a, b] z = some ([x, y], ⟨s, h⟩)) (hs : (s.set i (.val x)).set j (.val y) = s') : C.par2 i j a b z = some (.nx, ⟨s', h⟩) := by
  subst hs
  unfold C.par2
  rw [bnd_of h1]
theorem cs_par3 {i j l : Nat} {a b c : M D} {x y w : D} {z : Z} {s s' : List Sl} {h : List D} (h1 : E.args [a, b, c] z = some ([x, y, w], ⟨s, h⟩)) (hs : ((s.set i (.val x)).set j (.val y)).set l (.val w) = s') : C.par3 i j l a b c z = some (.nx, ⟨s', h⟩) := by
  subst hs
  unfold C.par3
  rw [bnd_of h1]
namespace Dr
/-- a draw: some number below -/
theorem drawX (s : DS) (tl : List D) {many : Nat} (h : 0 < many) (hb : many ≤ 1000000000) : ∃ (v : Nat) (s' : DS), v < many ∧ m_law_draw [.ref 1, .int many] (stT s tl) = some (.int v, stT s' tl) := by
  have a := drawV_nn s (many := (many : Int)) (by omega)
  have b := drawV_lt s (many := (many : Int)) (by omega)
  refine ⟨(drawV s many).toNat, drawS s many, by omega, ?_⟩
  rw [draw_evT tl s (many := (many : Int)) (m := 64) (by omega) (Smn.of (by omega)) (by decide)]
  have e : ((drawV s many).toNat : Int) = drawV s many := Int.toNat_of_nonneg a
  rw [e]
noncomputable section
@[reducible] def st_law_pick_1 : C := (C.ret (E.op O.ix (E.var 1) (E.call m_law_draw [(E.var 0), (E.blt F.len [(E.var 1)])])))
def b_law_pick : C := st_law_pick_1
def m_law_pick : Fn := fn 2 2 b_law_pick
end
theorem pickX (s : DS) (tl : List D) {xs : List D} (h : 0 < xs.length) (hb : xs.length ≤ 1000000000) (hp : ∀ x ∈ xs, isPure x = true) : ∃ (x : D) (s' : DS), x ∈ xs ∧ m_law_pick [.ref 1, .lst xs] (stT s tl) = some (x, stT s' tl) := by
  obtain ⟨v, s', hv, e⟩ := drawX s tl h hb
  obtain ⟨x, hx⟩ : ∃ x, xs[v]? = some x := ⟨_, List.getElem?_eq_getElem hv⟩
  have hm := List.mem_of_getElem? hx
  refine ⟨x, s', hm, ?_⟩
  unfold m_law_pick
  apply fn_rtH rfl
  unfold b_law_pick
  exact cs_ret (ev_ix (ev_var (n := 1) (d := .lst xs) rfl) (ev_call (ev_args (ev_var rfl) (ev_args (ev_blt1 (ev_var rfl) (lf_len rfl)) ev_args0 rfl) rfl) e) rfl (atI_nat hx)) (hp x hm)
noncomputable section
/-- .. the text that answers 0 where there is nothing to draw from -/
@[reducible] def st_law_draw_0 : C := (C.ite (T.val (E.op O.lt (E.var 1) (E.c (.int 1)))) (C.ret (E.c (.int 0))) C.skip)
def m_law_draw2 : Fn := fn 5 2 (C.seq st_law_draw_0 b_law_draw)
end
theorem drawX2 (s : DS) (tl : List D) {many : Nat} (h : 0 < many) (hb : many ≤ 1000000000) : ∃ (v : Nat) (s' : DS), v < many ∧ m_law_draw2 [.ref 1, .int many] (stT s tl) = some (.int v, stT s' tl) := by
  obtain ⟨v, s', hv, e⟩ := drawX s tl h hb
  refine ⟨v, s', hv, ?_⟩
  rw [← e]
  unfold m_law_draw2 m_law_draw fn
  have t : st_law_draw_0 ⟨slots 5 [.ref 1, .int many], stT s tl⟩ = some (.nx, ⟨slots 5 [.ref 1, .int many], stT s tl⟩) := by
    have e := tv (ev_lt (z := ⟨slots 5 [.ref 1, .int many], stT s tl⟩) (ev_var (n := 1) (d := .int many) rfl) (ev_c (d := .int 1)))
    rw [decide_eq_false (by omega)] at e
    exact cs_iteF e cs_skip
  have t2 : (C.seq st_law_draw_0 b_law_draw) ⟨slots 5 [.ref 1, .int many], stT s tl⟩ = b_law_draw ⟨slots 5 [.ref 1, .int many], stT s tl⟩ := cs_nx t rfl
  rw [t2]
end Dr
end Mi

set_option Elab.async false
set_option linter.all false
set_option maxRecDepth 100000
/-! Mi, part P: the least and the greatest of a row of numbers, list or tuple; comprehensions over three. -/
namespace Mi
open PySem PySem.W PySem.Spec PyProof.Rows L2
def F.rowI (x : D) (z : Z) : Option (List Int) := match cont x z with
  | some (_, ds) => F.ofInts ds
  | none => none
def F.minR : List D → Z → Option D
  | [x], z => match F.rowI x z with
    | some ns => (F.minL ns).map .int
    | none => none
  | _, _ => none
def F.maxR : List D → Z → Option D
  | [x], z => match F.rowI x z with
    | some ns => (F.maxL ns).map .int
    | none => none
  | _, _ => none
section
variable {X : Cx}
def RowI (K : PySem.W.Frag) (H : Hp) (a : Addr) (ns : List Int) : Prop := SqL K H a (ns.map V.int) ∨ SqT K H a (ns.map V.int)
theorem rowI_ok {K : Kx} {B : Bs} {F : Hp} {rho : List Addr} {om : Nat → Option Addr} {z : Z} {σ : L2.St} {H : Hp} {d : D} {v : V} {ns : List Int} (R : Rl K B F rho om z σ H) (r : Rv K F rho om d v) (h : Mi.F.rowI d z = some ns) : ∃ a, v = .ref a ∧ RowI K H a ns := by
  unfold Mi.F.rowI at h
  split at h
  · rename_i ds hc
    obtain ⟨a, xs, rfl, q, h9⟩ := cont_ok R r hc
    obtain rfl := ofInts_ok h q
    rcases h9 with ⟨_, h9⟩ | ⟨_, h9⟩
    · exact ⟨a, rfl, .inl h9⟩
    · exact ⟨a, rfl, .inr h9⟩
  · cases h
theorem reads_ints {h : Heap} : ∀ {ns : List Int} {us : List Value}, Vals (ns.map V.int) us → ReadsAll h us (ns.map PyData.int) []
  | [], us, r => by cases r; exact .nil
  | n :: ns, us, r => by
    cases r with
    | cons r1 r2 =>
      obtain ⟨t, rfl⟩ := r1
      exact .cons (as := []) (bs := []) (.int n t) (reads_ints r2)
theorem alike_row (ns : List Int) : AlikeAll (ns.map PyData.int) := by
  constructor
  · intro x hx y hy
    obtain ⟨i, _, rfl⟩ := List.mem_map.mp hx
    obtain ⟨j, _, rfl⟩ := List.mem_map.mp hy
    show PySem.W.alike (.int i) (.int j) = true
    simp only [PySem.W.alike]
  · intro x hx
    obtain ⟨i, _, rfl⟩ := List.mem_map.mp hx
    exact fun c => nomatch c
theorem depth_row : ∀ ns : List Int, PyData.depthAll (ns.map PyData.int) = 0
  | [] => by simp [PyData.depthAll]
  | n :: ns => by simp [PyData.depthAll, PyData.depth, depth_row ns]
theorem fold_min (n : Int) (ns : List Int) : ns.foldl min n = ns.foldl (fun a b => if b < a then b else a) n := by
  congr 1
  funext a b
  split <;> omega
theorem fold_max (n : Int) (ns : List Int) : ns.foldl max n = ns.foldl (fun a b => if a < b then b else a) n := by
  congr 1
  funext a b
  split <;> omega
def rMinR (K : PySem.W.Frag) : List V → Hp → VK → Prop := fun vs H Q => ∃ (a : Addr) (n : Int) (ns : List Int), vs = [V.ref a] ∧ RowI K H a (n :: ns) ∧ Q (.int (ns.foldl (fun a b => if b < a then b else a) n)) H
def rMaxR (K : PySem.W.Frag) : List V → Hp → VK → Prop := fun vs H Q => ∃ (a : Addr) (n : Int) (ns : List Int), vs = [V.ref a] ∧ RowI K H a (n :: ns) ∧ Q (.int (ns.foldl (fun a b => if a < b then b else a) n)) H
theorem call_minR (hc : X.calm = true) (hu : X.A.units + 64 < cLine) : CallR X (.builtin "min") (rMinR X.K) := by
  intro pins s σ H vs us Q I r h
  obtain ⟨a, n, ns, rfl, hs, q⟩ := h
  rw [Vals.ref1 r]
  have hd : X.A.units + 1 + PyData.depthAll (PyData.int n :: ns.map PyData.int) < cLine := by
    have := depth_row (n :: ns)
    rw [List.map_cons] at this
    omega
  rcases hs with hs | hs
  · obtain ⟨its, rv, hl, _⟩ := I.list hs
    refine min_list_data (I.ok.hd hc) hl.isList (reads_ints (ns := n :: ns) rv) (alike_row (n :: ns)) hd fun i v h' tk bs _ rd hk => ?_
    rw [minD_ints, fold_min] at rd
    cases rd with
    | int i t => exact ⟨.int _, H, I.kept hk, ⟨_, rfl⟩, q⟩
  · obtain ⟨its, rv, hl, _⟩ := I.tuple hs
    refine min_tuple_data (I.ok.hd hc) hl (reads_ints (ns := n :: ns) rv) (alike_row (n :: ns)) hd fun i v h' tk bs _ rd hk => ?_
    rw [minD_ints, fold_min] at rd
    cases rd with
    | int i t => exact ⟨.int _, H, I.kept hk, ⟨_, rfl⟩, q⟩
theorem call_maxR (hc : X.calm = true) (hu : X.A.units + 64 < cLine) : CallR X (.builtin "max") (rMaxR X.K) := by
  intro pins s σ H vs us Q I r h
  obtain ⟨a, n, ns, rfl, hs, q⟩ := h
  rw [Vals.ref1 r]
  have hd : X.A.units + 1 + PyData.depthAll (PyData.int n :: ns.map PyData.int) < cLine := by
    have := depth_row (n :: ns)
    rw [List.map_cons] at this
    omega
  rcases hs with hs | hs
  · obtain ⟨its, rv, hl, _⟩ := I.list hs
    refine max_list_data (I.ok.hd hc) hl.isList (reads_ints (ns := n :: ns) rv) (alike_row (n :: ns)) hd fun i v h' tk bs _ rd hk => ?_
    rw [maxD_ints, fold_max] at rd
    cases rd with
    | int i t => exact ⟨.int _, H, I.kept hk, ⟨_, rfl⟩, q⟩
  · obtain ⟨its, rv, hl, _⟩ := I.tuple hs
    refine max_tuple_data (I.ok.hd hc) hl (reads_ints (ns := n :: ns) rv) (alike_row (n :: ns)) hd fun i v h' tk bs _ rd hk => ?_
    rw [maxD_ints, fold_max] at rd
    cases rd with
    | int i t => exact ⟨.int _, H, I.kept hk, ⟨_, rfl⟩, q⟩
theorem f_minR (hc : X.calm = true) (hu : X.A.units + 64 < cLine) : CallM X (.builtin "min") F.minR := by
  refine ⟨_, call_minR hc hu, ?_⟩
  intro Tb B F rho om z σ H xs vs d R r e Q k
  unfold Mi.F.minR at e
  split at e
  · obtain ⟨v, rfl, rv⟩ := rvs1 r
    rename_i x
    split at e
    · rename_i ns hl
      obtain ⟨a, rfl, h⟩ := rowI_ok R rv hl
      cases ns with
      | nil => cases e
      | cons n ns =>
        cases e
        exact ⟨a, n, ns, rfl, h, k F H _ (Same.refl F) R (.pure (.int _))⟩
    · cases e
  · cases e
theorem f_maxR (hc : X.calm = true) (hu : X.A.units + 64 < cLine) : CallM X (.builtin "max") F.maxR := by
  refine ⟨_, call_maxR hc hu, ?_⟩
  intro Tb B F rho om z σ H xs vs d R r e Q k
  unfold Mi.F.maxR at e
  split at e
  · obtain ⟨v, rfl, rv⟩ := rvs1 r
    rename_i x
    split at e
    · rename_i ns hl
      obtain ⟨a, rfl, h⟩ := rowI_ok R rv hl
      cases ns with
      | nil => cases e
      | cons n ns =>
        cases e
        exact ⟨a, n, ns, rfl, h, k F H _ (Same.refl F) R (.pure (.int _))⟩
    · cases e
  · cases e
end
/-! walking -/
section
variable {x y d : D} {z z1 z2 z3 : Z} {s s' s2 : List Sl} {h h0 h1 h2 : List D}
theorem lf_minR {t : Bool} {ds : List D} {n : Int} {ns : List Int} (hc : cont x z = some (t, ds)) (hn : F.ofInts ds = some (n :: ns)) : F.minR [x] z = some (.int (ns.foldl (fun a b => if b < a then b else a) n)) := by
  show (match F.rowI x z with | some ns => (F.minL ns).map D.int | none => none) = _
  unfold F.rowI
  rw [hc]
  dsimp only
  rw [hn]
  rfl
theorem lf_maxR {t : Bool} {ds : List D} {n : Int} {ns : List Int} (hc : cont x z = some (t, ds)) (hn : F.ofInts ds = some (n :: ns)) : F.maxR [x] z = some (.int (ns.foldl (fun a b => if a < b then b else a) n)) := by
  show (match F.rowI x z with | some ns => (F.maxL ns).map D.int | none => none) = _
  unfold F.rowI
  rw [hc]
  dsimp only
  rw [hn]
  rfl
/-- a list made of a list that is watched -/
theorem comp_loopK {it : It} {g : G} {vs : List Nat} {tt : M Bool} {te : M D} (fl : D → Bool) (fe : D → D) (w : Z) (ok : it.ok w = true) (step : ∀ d, d ∈ it.items → ∃ z1 z2 z3, g.run d w = some z1 ∧ tt z1 = some (fl d, z2) ∧ (fl d = true → te z2 = some (fe d, z3) ∧ isPure (fe d) = true) ∧ (fl d = true → (⟨N.wipe z3.s vs, z3.h⟩ : Z) = w) ∧ (fl d = false → (⟨N.wipe z2.s vs, z2.h⟩ : Z) = w)) :
    ∀ (ds : List D) (acc : List D), (∀ d ∈ ds, d ∈ it.items) → N.loop it g vs tt te ds acc w = some (acc ++ (ds.filter fl).map fe, w)
  | [], acc, _ => by
    unfold N.loop
    rw [if_pos ok]
    simp
  | d :: ds, acc, hm => by
    obtain ⟨z1, z2, z3, h1, h2, h3, h4, h5⟩ := step d (hm d List.mem_cons_self)
    have ih := fun acc => comp_loopK fl fe w ok step ds acc fun x hx => hm x (List.mem_cons_of_mem _ hx)
    unfold N.loop
    rw [if_pos ok, h1]
    dsimp only
    rw [h2]
    cases hf : fl d with
    | true =>
      obtain ⟨h6, h7⟩ := h3 hf
      dsimp only
      rw [h6]
      dsimp only
      rw [if_pos h7, h4 hf, ih]
      simp [List.filter_cons, hf]
    | false =>
      dsimp only
      rw [h5 hf, ih]
      simp [List.filter_cons, hf]
theorem ev_compO {mi : M It} {xs : List D} {o : D} {g : G} {vs : List Nat} {tt : M Bool} {te : M D} (fl : D → Bool) (fe : D → D) (e : mi z = some (⟨xs, some o⟩, ⟨s, h⟩)) (hl : xs.length ≤ szl) (ho : (vs.all fun v => !N.isOwn s[v]?) = true) (hw : N.wipe s vs = s') (ok : (⟨xs, some o⟩ : It).ok ⟨s', h⟩ = true)
    (step : ∀ d ∈ xs, ∃ z1 z2 z3, g.run d ⟨s', h⟩ = some z1 ∧ tt z1 = some (fl d, z2) ∧ (fl d = true → te z2 = some (fe d, z3) ∧ isPure (fe d) = true) ∧ (fl d = true → (⟨N.wipe z3.s vs, z3.h⟩ : Z) = ⟨s', h⟩) ∧ (fl d = false → (⟨N.wipe z2.s vs, z2.h⟩ : Z) = ⟨s', h⟩)) (hr : N.rest s s' vs = s2) : N.comp mi g vs tt te z = some ((xs.filter fl).map fe, ⟨s2, h⟩) := by
  have e2 := comp_loopK (it := ⟨xs, some o⟩) fl fe ⟨s', h⟩ ok step xs [] fun d h => h
  rw [List.nil_append] at e2
  exact ev_compN e hl ho hw e2 hr
/-- a list made of three items; the heap may go on -/
theorem ev_comp3 {mi : M It} {a0 a1 a2 y0 y1 y2 : D} {g : G} {vs : List Nat} {te : M D} {za zb zc : Z} {sa sb sc : List Sl} (e : mi z = some (⟨[a0, a1, a2], none⟩, ⟨s, h⟩)) (ho : (vs.all fun v => !N.isOwn s[v]?) = true) (hw : N.wipe s vs = s')
    (g0 : g.run a0 ⟨s', h⟩ = some za) (t0 : te za = some (y0, ⟨sa, h0⟩)) (w0 : N.wipe sa vs = s') (p0 : isPure y0 = true)
    (g1 : g.run a1 ⟨s', h0⟩ = some zb) (t1 : te zb = some (y1, ⟨sb, h1⟩)) (w1 : N.wipe sb vs = s') (p1 : isPure y1 = true)
    (g2 : g.run a2 ⟨s', h1⟩ = some zc) (t2 : te zc = some (y2, ⟨sc, h2⟩)) (w2 : N.wipe sc vs = s') (p2 : isPure y2 = true) (hr : N.rest s s' vs = s2) : N.comp mi g vs (Mi.ret true) te z = some ([y0, y1, y2], ⟨s2, h2⟩) := by
  have ok : ∀ {xs : List D} {z : Z}, (⟨xs, none⟩ : It).ok z = true := fun {xs z} => rfl
  refine ev_compN e (show 3 ≤ szl by unfold szl; omega) ho hw ?_ hr
  refine nl_t ok g0 rfl t0 p0 ?_
  dsimp only
  rw [w0]
  refine nl_t ok g1 rfl t1 p1 ?_
  dsimp only
  rw [w1]
  refine nl_t ok g2 rfl t2 p2 ?_
  dsimp only
  rw [w2]
  exact nl_nil ok
theorem rng3 : I.rng1 (E.c (.int 3)) z = some (⟨[.int 0, .int 1, .int 2], none⟩, z) := ev_rng1 (n := 3) ev_c ⟨by decide, by decide⟩
end
namespace St
theorem takeX (t : TS) (tl : List D) {many : Nat} (h : 0 < many) : ∃ (v : Nat) (t' : TS), v < many ∧ m_law_take [.ref 0, .int many] (tkT t tl) = some (.int v, tkT t' tl) := by
  have a := takeV_nn t (many := (many : Int)) (by omega)
  have b := takeV_lt t (many := (many : Int)) (by omega)
  refine ⟨(takeV t many).toNat, takeS t, by omega, ?_⟩
  rw [take_evT tl t (many := (many : Int)) (by omega)]
  have e : ((takeV t many).toNat : Int) = takeV t many := Int.toNat_of_nonneg a
  rw [e]
end St
end Mi

set_option Elab.async false
set_option linter.all false
set_option maxRecDepth 100000
/-! Mi, part Q: instances. -/
namespace Mi
open PySem PySem.W PySem.Spec PyProof.Rows L2
/-- a field stored: in its place, or behind -/
def putFD (f : Str) (d : D) : List (Str × D) → List (Str × D)
  | [] => [(f, d)]
  | (k, x) :: r => if k = f then (k, d) :: r else (k, x) :: putFD f d r
/-- .. read -/
def O.fld (f : Str) (x : D) (z : Z) : Option D := match x with
  | .ref n => match z.h[n]? with
    | some (.ins _ fs) => fs.lookup f
    | _ => none
  | .ins _ fs => fs.lookup f
  | _ => none
@[reducible] def E.fld (f : Str) (m : M D) : M D := E.un (O.fld f) m
def C.fset (f : Str) (o v : M D) : C := bnd v fun d => bnd o fun x z => if isPure d = true then match x with
    | .ref n => match z.h[n]? with
      | some (.ins nm fs) => if fs.length < 1000 then some (.nx, ⟨z.s, z.h.set n (.ins nm (putFD f d fs))⟩) else none
      | _ => none
    | _ => none
  else none
/-- what is never come to -/
def C.never : C := fun _ => none
section
variable {X : Cx} {Tb : Tbs}
theorem ms_never {s : Stmt} (h : ∃ t, PS X s t) : PS X s (Ts (kx X Tb) C.never) := by
  obtain ⟨t, h⟩ := h
  exact ps_imp h fun D σ H ⟨B, F, rho, om, z, R, f, z', e, k⟩ => by cases e
theorem ms_never0 {s : Stmt} : PS X s (Ts (kx X Tb) C.never) := ⟨fun pins s σ H D I ⟨B, F, rho, om, z, R, f, z', e, k⟩ => by cases e⟩
variable {K : Kx} {F : Hp} {rho : List Addr}
theorem rps_lookup {f : Str} : ∀ {fs : List (Str × D)} {es : List (Str × V)} {d : D}, es.map Prod.fst = fs.map Prod.fst → Rps K F rho (fs.map Prod.snd) (es.map Prod.snd) → fs.lookup f = some d → ∃ v, es.lookup f = some v ∧ Rp K F rho d v
  | [], es, d, _, _, h => by cases h
  | (k, x) :: fs, es, d, hk, r, h => by
    cases es with
    | nil => cases hk
    | cons e es =>
      obtain ⟨k2, v⟩ := e
      rw [List.map_cons, List.map_cons, List.cons.injEq] at hk
      obtain ⟨hk1, hk2⟩ := hk
      have hk1 : k2 = k := hk1
      subst hk1
      rw [List.map_cons, List.map_cons] at r
      cases r with
      | cons r1 r2 =>
        rw [List.lookup_cons] at h ⊢
        cases c : (f == k2) with
        | true =>
          rw [c] at h
          cases h
          exact ⟨v, rfl, r1⟩
        | false =>
          rw [c] at h
          exact rps_lookup hk2 r2 h
theorem rps_putF {f : Str} {d : D} {v : V} (rv : Rp K F rho d v) : ∀ {fs : List (Str × D)} {es : List (Str × V)}, es.map Prod.fst = fs.map Prod.fst → Rps K F rho (fs.map Prod.snd) (es.map Prod.snd) → (putF f v es).map Prod.fst = (putFD f d fs).map Prod.fst ∧ Rps K F rho ((putFD f d fs).map Prod.snd) ((putF f v es).map Prod.snd)
  | [], es, hk, r => by
    cases es with
    | nil => exact ⟨rfl, .cons rv .nil⟩
    | cons e es => cases hk
  | (k, x) :: fs, es, hk, r => by
    cases es with
    | nil => cases hk
    | cons e es =>
      obtain ⟨k2, w⟩ := e
      rw [List.map_cons, List.map_cons, List.cons.injEq] at hk
      obtain ⟨hk1, hk2⟩ := hk
      have hk1 : k2 = k := hk1
      subst hk1
      rw [List.map_cons, List.map_cons] at r
      cases r with
      | cons r1 r2 =>
        unfold putF putFD
        by_cases c : k2 = f
        · rw [if_pos c, if_pos c]
          rw [List.map_cons, List.map_cons, List.map_cons, List.map_cons]
          exact ⟨by rw [hk2], .cons rv r2⟩
        · rw [if_neg c, if_neg c]
          obtain ⟨h1, h2⟩ := rps_putF rv hk2 r2
          rw [List.map_cons, List.map_cons, List.map_cons, List.map_cons]
          exact ⟨by rw [h1], .cons r1 h2⟩
theorem me_fld {f : Str} {e : Expr} {m : M D} {pos : Pos} (hc : ∀ p ∈ (kx X Tb).tb.c, Cls X.K p.2) (hn : ∀ p ∈ (kx X Tb).tb.c, NoAttr X.K p.2 f) (he : PE X e (Te (kx X Tb) m)) (hb : attributeBase e f X.env (eval e X.env) = eval e X.env := by rfl) : PE X (.Attribute e f pos) (Te (kx X Tb) (E.fld f m)) := by
  refine pe_imp (pe_fld he hb) (un_go (r := fun x H Q => ∃ a C dx fs v, x = V.ref a ∧ H a = some (.ins C dx fs) ∧ Cls X.K C ∧ NoAttr X.K C f ∧ fs.lookup f = some v ∧ Q v H) ?_)
  intro B F rho om z σ H x xv d R rx e Q k
  unfold O.fld at e
  split at e
  · rename_i n
    split at e
    · rename_i nm fs hz
      cases rx with
      | pure rx =>
        cases rx with
        | ref hr =>
          obtain ⟨C, dx, es, hm, hH, hk, hv⟩ := R.rh.obs _ _ _ hz hr
          obtain ⟨v, h1, h2⟩ := rps_lookup hk hv e
          exact ⟨_, C, dx, es, v, rfl, hH, hc _ hm, hn _ hm, h1, k F H v (Same.refl F) R (.pure h2)⟩
    · cases e
  · rename_i nm fs
    cases rx with
    | pure rx =>
      cases rx with
      | ins hm hF hk hv =>
        obtain ⟨v, h1, h2⟩ := rps_lookup hk hv e
        exact ⟨_, _, _, _, v, rfl, R.rh.fro _ _ hF, hc _ hm, hn _ hm, h1, k F H v (Same.refl F) R (.pure h2)⟩
  · cases e
theorem ms_fset {f : Str} {o e : Expr} {mo mv : M D} {pos pos' : Pos} (hc : ∀ p ∈ (kx X Tb).tb.c, Cls X.K p.2) (hn : ∀ p ∈ (kx X Tb).tb.c, NoAttr X.K p.2 f) (ho : PE X o (Te (kx X Tb) mo)) (hv : PE X e (Te (kx X Tb) mv)) (hs : swapsWith e (some (.Attribute o f pos')) pos.line X.env = pure false := by rfl) : PS X (.Assign [.Attribute o f pos'] e pos) (Ts (kx X Tb) (C.fset f mo mv)) := by
  refine ps_imp (ps_fld ho hv hs) fun D σ H ⟨B, F, rho, om, z, R, fl, z', e, k⟩ => ?_
  obtain ⟨d, z1, e1, e2⟩ := bnd_some e
  refine ⟨B, F, rho, om, z, R, d, z1, e1, fun F1 rho1 H1 v s1 p1 R1 r1 => ?_⟩
  obtain ⟨x, z2, e3, e4⟩ := bnd_some e2
  refine ⟨B, F1, rho1, om, z1, R1, x, z2, e3, fun F2 rho2 H2 w s2 p2 R2 r2 => ?_⟩
  split at e4
  · rename_i hp
    split at e4
    · rename_i n
      split at e4
      · rename_i nm fs hz
        split at e4
        · rename_i hl
          cases e4
          cases r2 with
          | pure r2 =>
            cases r2 with
            | ref hr =>
              obtain ⟨C, dx, es, hm, hH, hk, hvs⟩ := R2.rh.obs _ _ _ hz hr
              have rp := (r1.of_pure hp).mono s2 p2
              have q := rps_putF (f := f) rp hk hvs
              have hle : es.length < 1000 := by
                have := congrArg List.length hk
                rw [List.length_map, List.length_map] at this
                omega
              have R3 := R2.mutRef hr (o := .ins C dx (putF f v es)) (d := .ins nm (putFD f d fs)) ⟨C, dx, _, hm, upd_same, q.1, q.2⟩
              exact ⟨_, C, dx, es, rfl, hH, hc _ hm, hn _ hm, hle, k F2 rho2 _ _ _ (s1.trans s2) (p1.trans p2) R3⟩
        · cases e4
      · cases e4
    · cases e4
  · cases e4
/-! ### an instance made -/
def E.make (nm : Str) (mf : Fn) (g : List D → List D) (ms : List (M D)) : M D := bnd (E.args ms) fun xs z => match mf (.ref z.h.length :: g xs) (z.h ++ [.ins nm []]) with
  | some (.non, h') => some (.ref z.h.length, ⟨z.s, h'⟩)
  | _ => none
theorem pk_imp {kws : List Keyword} {t t' : TA} (h : PK X kws t) (i : ∀ σ H Q, t' σ H Q → t σ H Q) : PK X kws t' := ⟨fun pos pins s σ H Q I hw => h.run pos pins s σ H Q I (i σ H Q hw)⟩
theorem mk_nil : PK X [] (Ta (kx X Tb) (E.args [])) := pk_imp pk_nil fun σ H Q ⟨B, F, rho, om, z, g⟩ => g.ret [] .nil
theorem mk_cons {nm : Option Str} {kpos : Pos} {e : Expr} {kws : List Keyword} {m : M D} {ms : List (M D)} (ha : PE X e (Te (kx X Tb) m)) (hr : PK X kws (Ta (kx X Tb) (E.args ms))) : PK X (⟨nm, e, kpos⟩ :: kws) (Ta (kx X Tb) (E.args (m :: ms))) := by
  refine pk_imp (pk_cons ha hr) fun σ H Q ⟨B, F, rho, om, z, g⟩ => ?_
  refine (g.bnd.imp fun F1 rho1 H1 x z1 y _ _ _ _ _ ⟨F2, rho2, z2, x2, eg1, s1, p1, r1, g1⟩ => ?_).tx (R := rV (kx X Tb))
  refine (g1.bnd.imp fun F3 rho3 H3 xs z3 ys _ _ _ _ _ ⟨F4, rho4, z4, xs4, eg2, s2, p2, r2, g2⟩ => ?_).tx (R := rA (kx X Tb))
  by_cases hp : isPure x2 = true
  · rw [if_pos hp] at g2
    exact g2.ret _ (.cons ((r1.mono s2 p2).of_pure hp) r2)
  · rw [if_neg hp] at g2
    obtain ⟨_, _, _, e, _⟩ := g2
    cases e
/-- values put in the parameters' order, alike in data and values -/
def Alike (K : Kx) (m n : Nat) (g : List D → List D) (gV : List V → List V) : Prop := ∀ {F : Hp} {rho : List Addr} {ds : List D} {vs : List V}, ds.length = m → Rps K F rho ds vs → Rps K F rho (g ds) (gV vs) ∧ (gV vs).length = n
theorem make_go {nm : Str} {C : Addr} {n m : Nat} {mf : Fn} {g : List D → List D} {gV : List V → List V} {ms : List (M D)} {Ee : XK} (hC : (nm, C) ∈ K.tb.c) (hm : ms.length = m) (al : Alike K m n g gV) : ∀ σ H Q, Te K (E.make nm mf g ms) σ H Q →
    (Ta K (E.args ms)) σ H fun zs H2 => zs.length = m ∧ ∀ x dx, H2 x = none → H2 dx = none → dx ≠ x → spM (n + 1) K mf (.ref x :: gV zs) (upd (upd H2 dx (.own x)) x (.ins C dx [])) (fun v H3 => v = .non ∧ Q (.ref x) H3) Ee := by
  rintro σ H Q ⟨B, F, rho, om, z, gg⟩
  refine (gg.bnd.imp fun _ _ H1 _ _ zs _ _ _ _ _ ⟨F2, rho2, z2, xs, eg1, s1, p1, r1, g1⟩ => ?_).tx (R := rA K)
  obtain ⟨R, d, z4, e, k⟩ := g1
  have hx := args_len eg1
  refine ⟨by rw [← r1.length, hx, hm], fun x dx hnx hdx hne => ?_⟩
  dsimp only at e
  split at e
  · rename_i h' hd
    cases e
    have R1 := R.new (o := .own x) hdx
    have hx2 : (upd H1 dx (.own x)) x = none := by rw [upd_ne (show x ≠ dx from fun c => hne c.symm)]; exact hnx
    have R2 := R1.1.new (o := .ins C dx []) hx2
    have R3 := R2.1.share R2.2 (d := .ins nm []) ⟨C, dx, [], hC, upd_same, rfl, .nil⟩
    obtain ⟨a1, a2⟩ := al (by rw [hx, hm]) (r1.mono (Same.refl _) (List.prefix_append rho2 [x]))
    refine ⟨by rw [List.length_cons, a2], F2, rho2 ++ [x], z2.h ++ [.ins nm []], .ref z2.h.length :: g xs, R3.1.rh, .cons (.ref R3.2) a1, .non, h', hd, fun F' rho' H' v e1 e2 r fr nf nr q => ?_⟩
    have hv : v = .non := by cases q; rfl
    refine ⟨hv, k F' rho' H' (.ref x) e1 ((List.prefix_append _ _).trans e2) (R3.1.called e1 e2 r fr nf nr) (.pure (.ref ?_))⟩
    obtain ⟨tl, ht⟩ := e2
    rw [← ht, List.getElem?_append_left (List.getElem?_eq_some_iff.mp R3.2).1]
    exact R3.2
  · cases e
end
end Mi

set_option Elab.async false
set_option linter.all false
set_option maxRecDepth 100000
/-! Mi, part T: what a def computes, over typed data: plain operations that may fail, loops, and how a body follows them. -/
namespace Mi
open PySem L2
/-! ### typed data as data -/
@[reducible] def eI (i : Int) : D := .int i
@[reducible] def eB (b : Bool) : D := .bl b
@[reducible] def eS (x : Str) : D := .str x
@[reducible] def eN (_ : Unit) : D := .non
@[reducible] def eD (d : D) : D := d
def eO {α : Type} (e : α → D) : Option α → D
  | none => .non
  | some x => e x
section
variable {α β γ δ ε ζ η θ ι κ : Type}
@[reducible] def eL (e : α → D) (xs : List α) : D := .lst (xs.map e)
@[reducible] def eU (e : α → D) (xs : List α) : D := .tup (xs.map e)
@[reducible] def e1 (a : α → D) (p : α) : D := .tup [a p]
@[reducible] def e2 (a : α → D) (b : β → D) (p : α × β) : D := .tup [a p.1, b p.2]
@[reducible] def e3 (a : α → D) (b : β → D) (c : γ → D) (p : α × β × γ) : D := .tup [a p.1, b p.2.1, c p.2.2]
@[reducible] def e4 (a : α → D) (b : β → D) (c : γ → D) (d : δ → D) (p : α × β × γ × δ) : D := .tup [a p.1, b p.2.1, c p.2.2.1, d p.2.2.2]
@[reducible] def e5 (a : α → D) (b : β → D) (c : γ → D) (d : δ → D) (e : ε → D) (p : α × β × γ × δ × ε) : D := .tup [a p.1, b p.2.1, c p.2.2.1, d p.2.2.2.1, e p.2.2.2.2]
@[reducible] def e6 (a : α → D) (b : β → D) (c : γ → D) (d : δ → D) (e : ε → D) (f : ζ → D) (p : α × β × γ × δ × ε × ζ) : D := .tup [a p.1, b p.2.1, c p.2.2.1, d p.2.2.2.1, e p.2.2.2.2.1, f p.2.2.2.2.2]
@[reducible] def e7 (a : α → D) (b : β → D) (c : γ → D) (d : δ → D) (e : ε → D) (f : ζ → D) (g : η → D) (p : α × β × γ × δ × ε × ζ × η) : D := .tup [a p.1, b p.2.1, c p.2.2.1, d p.2.2.2.1, e p.2.2.2.2.1, f p.2.2.2.2.2.1, g p.2.2.2.2.2.2]
/-- written tuples -/
@[reducible] def k2 (a : α → D) (b : β → D) (p : α × β) : D := .kt [a p.1, b p.2]
@[reducible] def k3 (a : α → D) (b : β → D) (c : γ → D) (p : α × β × γ) : D := .kt [a p.1, b p.2.1, c p.2.2]
end
/-! ### plain operations that may fail -/
namespace Pl
section
variable {α β γ σ ρ : Type}
def mul (i j : Int) : Option Int := if i.natAbs < 2 ^ bigN ∧ j.natAbs < 2 ^ bigN then some (i * j) else none
def div (i j : Int) : Option Int := if 0 < j ∧ j.natAbs < 2 ^ bigN then some (i / j) else none
def mod (i j : Int) : Option Int := if 0 < j then some (i % j) else none
def app (xs : List α) (x : α) : Option (List α) := if xs.length < szl then some (xs ++ [x]) else none
def cat (xs ys : List α) : Option (List α) := if xs.length + ys.length < szl then some (xs ++ ys) else none
def at_ (xs : List α) (i : Int) : Option α := atI xs i
def rng (a b : Int) : List Int := (List.range (b - a).toNat).map fun i : Nat => a + (i : Int)
def rngO (a b : Int) : Option (List Int) := if (-(2 ^ 62) ≤ a ∧ a < 2 ^ 62) ∧ -(2 ^ 62) ≤ b ∧ b < 2 ^ 62 then some (rng a b) else none
def andO (p : Bool) (o : Option Bool) : Option Bool := if p = true then o else some false
def orO (p : Bool) (o : Option Bool) : Option Bool := if p = true then some true else o
/-- a comprehension -/
def cmp (t : α → Option Bool) (f : α → Option β) : List α → Option (List β)
  | [] => some []
  | x :: xs => (t x).bind fun b => if b = true then (f x).bind fun y => (cmp t f xs).bind fun ys => some (y :: ys) else cmp t f xs
def comp (t : α → Option Bool) (f : α → Option β) (xs : List α) : Option (List β) := if xs.length ≤ szl then cmp t f xs else none
/-- .. whose elements go on with a state -/
def cmpS (f : α → σ → Option (β × σ)) : List α → σ → Option (List β × σ)
  | [], s => some ([], s)
  | x :: xs, s => (f x s).bind fun q => (cmpS f xs q.2).bind fun r => some (q.1 :: r.1, r.2)
def compS (f : α → σ → Option (β × σ)) (xs : List α) (s : σ) : Option (List β × σ) := if xs.length ≤ szl then cmpS f xs s else none
inductive Out (σ ρ : Type) where
  | go (s : σ) | brk (s : σ) | ret (r : ρ)
/-- for, without an exit -/
def forN (f : α → σ → Option σ) : List α → σ → Option σ
  | [], s => some s
  | x :: xs, s => (f x s).bind fun s => forN f xs s
/-- for, with exits -/
def forO (f : α → σ → Option (Out σ ρ)) : List α → σ → Option (σ ⊕ ρ)
  | [], s => some (.inl s)
  | x :: xs, s => match f x s with
    | none => none
    | some (.go s) => forO f xs s
    | some (.brk s) => some (.inl s)
    | some (.ret r) => some (.inr r)
def whO (t : σ → Option Bool) (f : σ → Option (Out σ ρ)) (s : σ) : Option (σ ⊕ ρ) := match t s with
  | none => none
  | some false => some (.inl s)
  | some true => match f s with
    | none => none
    | some (.go s) => whO t f s
    | some (.brk s) => some (.inl s)
    | some (.ret r) => some (.inr r)
partial_fixpoint
def draw (s : DS) (many : Int) : Option (Int × DS) := if 0 < many ∧ many ≤ 1000000000000 then some (drawV s many, drawS s many) else none
def take (s : TS) (many : Int) : Option (Int × TS) := if 0 < many then some (takeV s many, takeS s) else none
end
end Pl
/-! ### a body follows a plain term -/
def Rf {α : Type} (o : Option α) (c : C) (z : Z) (Φ : α → Fl → Z → Prop) : Prop := ∀ r, o = some r → ∃ f z', c z = some (f, z') ∧ Φ r f z'
theorem bI {α β : Type} {o : Option α} {K : α → Option β} {r : β} (h : o.bind K = some r) : ∃ t, o = some t ∧ K t = some r := by
  cases o with
  | none => cases h
  | some t => exact ⟨t, rfl, h⟩
section
variable {α β γ σ ρ : Type} {o : Option α} {c a b rest : C} {z z1 z2 : Z} {s s' s2 : List Sl} {h h1 : List D} {Φ Ψ : α → Fl → Z → Prop}
theorem Rf.imp (k : Rf o c z Ψ) (i : ∀ r f z, Ψ r f z → Φ r f z) : Rf o c z Φ := fun r e => by
  obtain ⟨f, z', e1, q⟩ := k r e
  exact ⟨f, z', e1, i r f z' q⟩
theorem Rf.bd {o : Option β} {K : β → Option α} (k : ∀ t, o = some t → Rf (K t) c z Φ) : Rf (o.bind K) c z Φ := fun r e => by
  obtain ⟨t, e1, e2⟩ := bI e
  exact k t e1 r e2
theorem seq_nx {a b : C} {z z1 : Z} (h : a z = some (.nx, z1)) : C.seq a b z = b z1 := by unfold C.seq; rw [h]
theorem Rf.nx (h1 : a z = some (.nx, z1)) (k : Rf o rest z1 Φ) : Rf o (C.seq a rest) z Φ := fun r e => by
  obtain ⟨f, z', e1, q⟩ := k r e
  exact ⟨f, z', by rw [seq_nx h1]; exact e1, q⟩
theorem Rf.skip (k : Rf o c z Φ) : Rf o (C.seq C.skip c) z Φ := k.nx rfl
theorem seq_skip (a : C) : C.seq a C.skip = a := by
  funext z
  unfold C.seq C.skip
  split
  · rename_i z1 h; rw [h]
  · rfl
theorem seq_assoc (a b c : C) : C.seq (C.seq a b) c = C.seq a (C.seq b c) := by
  funext z
  unfold C.seq
  cases h : a z with
  | none => rfl
  | some p =>
    obtain ⟨f, z1⟩ := p
    cases f <;> rfl
theorem Rf.last (k : Rf o (C.seq c C.skip) z Φ) : Rf o c z Φ := by rw [seq_skip] at k; exact k
theorem Rf.assoc (k : Rf o (C.seq a (C.seq b c)) z Φ) : Rf o (C.seq (C.seq a b) c) z Φ := by rw [seq_assoc]; exact k
theorem Rf.fin {r : α} (q : Φ r .nx z) : Rf (some r) C.skip z Φ := fun r' e => by cases e; exact ⟨_, _, rfl, q⟩
/-- x = e, by its value's name -/
theorem Rf.setT {i : Nat} {m : M D} {t : β} {K : β → Option α} (e : β → D) (he : m z = some (e t, ⟨s, h⟩)) (hp : ∀ x, isPure (e x) = true) {s' : β → List Sl} (hs : ∀ x, s.set i (.val (e x)) = s' x) (k : ∀ x, Rf (K x) rest ⟨s' x, h⟩ Φ) : Rf ((some t).bind K) (C.seq (C.set i m) rest) z Φ :=
  (k t).nx (cs_setN he (hp t) (hs t))
theorem Rf.set0 {i : Nat} {m : M D} {d : D} (he : m z = some (d, ⟨s, h⟩)) (hp : isPure d = true) (hs : s.set i (.val d) = s') (k : Rf o rest ⟨s', h⟩ Φ) : Rf o (C.seq (C.set i m) rest) z Φ :=
  k.nx (cs_setN he hp hs)
theorem Rf.asg0 {g : G} {m : M D} {d : D} (he : m z = some (d, z1)) (hp : isPure d = true) (hg : g.run d z1 = some z2) (k : Rf o rest z2 Φ) : Rf o (C.seq (C.asg g m) rest) z Φ :=
  k.nx (cs_asg he hp hg)
theorem Rf.par2 {i j : Nat} {x y : D} {ma mb : M D} (he : E.args [ma, mb] z = some ([x, y], ⟨s, h⟩)) (hs : (s.set i (.val x)).set j (.val y) = s') (k : Rf o rest ⟨s', h⟩ Φ) : Rf o (C.seq (C.par2 i j ma mb) rest) z Φ := k.nx (cs_par2 he hs)
theorem Rf.par3 {i j l : Nat} {x y w : D} {ma mb mc : M D} (he : E.args [ma, mb, mc] z = some ([x, y, w], ⟨s, h⟩)) (hs : ((s.set i (.val x)).set j (.val y)).set l (.val w) = s') (k : Rf o rest ⟨s', h⟩ Φ) : Rf o (C.seq (C.par3 i j l ma mb mc) rest) z Φ := k.nx (cs_par3 he hs)
theorem Rf.own0 {i : Nat} {m : M (List D)} {ds : List D} (he : m z = some (ds, ⟨s, h⟩)) (hn : i < s.length) (hs : s.set i (.own (.lst ds)) = s') (k : Rf o rest ⟨s', h⟩ Φ) : Rf o (C.seq (C.own i m) rest) z Φ :=
  k.nx (cs_ownN he hn hs)
theorem Rf.ownT {i : Nat} {m : M (List D)} {t : List β} {K : List β → Option α} (e : β → D) (he : m z = some (t.map e, ⟨s, h⟩)) (hn : i < s.length) {s' : List β → List Sl} (hs : ∀ x : List β, s.set i (.own (.lst (x.map e))) = s' x) (k : ∀ x, Rf (K x) rest ⟨s' x, h⟩ Φ) : Rf ((some t).bind K) (C.seq (C.own i m) rest) z Φ :=
  (k t).nx (cs_ownN he hn (hs t))
theorem Rf.frz {i : Nat} {ds : List D} (h1 : s[i]? = some (.own (.lst ds))) (hs : s.set i (.val (.lst ds)) = s') (k : Rf o rest ⟨s', h⟩ Φ) : Rf o (C.seq (C.frz i) rest) ⟨s, h⟩ Φ :=
  k.nx (cs_frzN h1 hs)
theorem Rf.drop {m : M D} {d : D} (he : m z = some (d, z1)) (k : Rf o rest z1 Φ) : Rf o (C.seq (C.drop m) rest) z Φ := k.nx (cs_drop he)
theorem Rf.aug0 {n : Nat} {x y d : D} {g : D → D → Z → Option D} {m : M D} (hx : z.s[n]? = some (.val x)) (he : m z = some (y, ⟨s, h⟩)) (hg : g x y ⟨s, h⟩ = some d) (hp : isPure d = true) (hs : s.set n (.val d) = s') (k : Rf o rest ⟨s', h⟩ Φ) : Rf o (C.seq (C.aug n g m) rest) z Φ := k.nx (cs_augN hx he hg hp hs)
theorem Rf.augT {n : Nat} {x y : D} {g : D → D → Z → Option D} {m : M D} {t : β} {K : β → Option α} (e : β → D) (hx : z.s[n]? = some (.val x)) (he : m z = some (y, ⟨s, h⟩)) (hg : g x y ⟨s, h⟩ = some (e t)) (hp : ∀ x, isPure (e x) = true) {s' : β → List Sl} (hs : ∀ x, s.set n (.val (e x)) = s' x) (k : ∀ x, Rf (K x) rest ⟨s' x, h⟩ Φ) : Rf ((some t).bind K) (C.seq (C.aug n g m) rest) z Φ := (k t).nx (cs_augN hx he hg (hp t) (hs t))
/-- xs.append(e) of a list that a slot owns -/
theorem Rf.app {i : Nat} {m : M D} {xs : List β} {t : β} {K : List β → Option α} (e : β → D) (hi : s[i]? = some (.own (.lst (xs.map e)))) (hm : m ⟨s, h⟩ = some (e t, ⟨s, h1⟩)) (hp : isPure (e t) = true) {s' : List β → List Sl} (hs : ∀ ys : List β, s.set i (.own (.lst (ys.map e))) = s' ys) (k : ∀ ys, Rf (K ys) rest ⟨s' ys, h1⟩ Φ) :
    Rf ((Pl.app xs t).bind K) (C.seq (C.drop (E.chg U.append (E.var i) [m])) rest) ⟨s, h⟩ Φ := Rf.bd fun ys hy => by
  unfold Pl.app at hy
  split at hy
  · rename_i hl
    cases hy
    refine (k (xs ++ [t])).nx (cs_drop (ev_chgN (ev_varO hi) hi (ev_args hm ev_args0 hp) hi (?_ : U.append _ _ = some (.non, (xs ++ [t]).map e)) (hs _)))
    unfold U.append
    dsimp only
    rw [if_pos (by rw [List.length_map]; exact hl), List.map_append]
    rfl
  · cases hy
/-- xs.extend(ys) -/
theorem Rf.ext {i : Nat} {m : M D} {xs t : List β} {K : List β → Option α} (e : β → D) (hi : s[i]? = some (.own (.lst (xs.map e)))) (hm : m ⟨s, h⟩ = some (.lst (t.map e), ⟨s, h1⟩)) {s' : List β → List Sl} (hs : ∀ ys : List β, s.set i (.own (.lst (ys.map e))) = s' ys) (k : ∀ ys, Rf (K ys) rest ⟨s' ys, h1⟩ Φ) :
    Rf ((Pl.cat xs t).bind K) (C.seq (C.drop (E.chg U.extend (E.var i) [m])) rest) ⟨s, h⟩ Φ := Rf.bd fun ys hy => by
  unfold Pl.cat at hy
  split at hy
  · rename_i hl
    cases hy
    refine (k (xs ++ t)).nx (cs_drop (ev_chgN (ev_varO hi) hi (ev_args hm ev_args0 rfl) hi (?_ : U.extend _ _ = some (.non, (xs ++ t).map e)) (hs _)))
    unfold U.extend
    dsimp only
    rw [if_pos (by rw [List.length_map, List.length_map]; exact hl), List.map_append]
  · cases hy
theorem Rf.ret {m : M D} {d : D} {r : α} (he : m z = some (d, z1)) (hp : isPure d = true) (q : Φ r (.rt d) z1) : Rf (some r) (C.seq (C.ret m) rest) z Φ := fun r' e => by
  cases e
  exact ⟨_, _, cs_rt (cs_ret he hp), q⟩
/-- .. of a list that a slot owns -/
theorem Rf.retO {n : Nat} {m : M D} {ds : List D} {r : α} (he : m z = some (.own n, ⟨s, h⟩)) (hn : s[n]? = some (.own (.lst ds))) (q : Φ r (.rt (.lst ds)) ⟨s.set n .no, h⟩) : Rf (some r) (C.seq (C.ret m) rest) z Φ := fun r' e => by
  cases e
  exact ⟨_, _, cs_rt (cs_retO he hn), q⟩
theorem Rf.retN {r : α} (q : Φ r (.rt .non) z) : Rf (some r) (C.seq C.retN rest) z Φ := fun r' e => by
  cases e
  exact ⟨_, _, cs_rt rfl, q⟩
theorem Rf.brk {r : α} (q : Φ r .bk z) : Rf (some r) (C.seq C.brk rest) z Φ := fun r' e => by
  cases e
  exact ⟨_, _, cs_bk rfl, q⟩
theorem Rf.cnt {r : α} (q : Φ r .ct z) : Rf (some r) (C.seq C.cnt rest) z Φ := fun r' e => by
  cases e
  exact ⟨_, _, cs_ct rfl, q⟩
theorem ite_seq {t : M Bool} {p : Bool} (ht : t z = some (p, z1)) : C.seq (C.ite t a b) rest z = if p = true then C.seq a rest z1 else C.seq b rest z1 := by
  cases p with
  | true => rw [if_pos rfl]; unfold C.seq C.ite bnd; rw [ht]; rfl
  | false => rw [if_neg (by decide)]; unfold C.seq C.ite bnd; rw [ht]; rfl
theorem Rf.ite {t : M Bool} {p : Bool} {oA oB : Option α} (ht : t z = some (p, z1)) (hA : Rf oA (C.seq a rest) z1 Φ) (hB : Rf oB (C.seq b rest) z1 Φ) : Rf (if p = true then oA else oB) (C.seq (C.ite t a b) rest) z Φ := fun r e => by
  rw [ite_seq ht]
  cases p with
  | true => exact hA r e
  | false => exact hB r e
/-- .. in a total def -/
theorem Rf.iteT {t : M Bool} {p : Bool} {x y : α} (ht : t z = some (p, z1)) (hA : Rf (some x) (C.seq a rest) z1 Φ) (hB : Rf (some y) (C.seq b rest) z1 Φ) : Rf (some (if p = true then x else y)) (C.seq (C.ite t a b) rest) z Φ := fun r e => by
  rw [ite_seq ht]
  cases p with
  | true => exact hA r e
  | false => exact hB r e
/-- a part, then on -/
theorem Rf.thn {o : Option β} {K : β → Option α} (J : β → Z → Prop) (h1 : Rf o a z fun v f z' => f = .nx ∧ J v z') (k : ∀ v z', J v z' → Rf (K v) rest z' Φ) : Rf (o.bind K) (C.seq a rest) z Φ := fun r e => by
  obtain ⟨t, e1, e2⟩ := bI e
  obtain ⟨f, z', e3, rfl, q⟩ := h1 t e1
  obtain ⟨f2, z2, e4, q2⟩ := k t z' q r e2
  exact ⟨f2, z2, by rw [seq_nx e3]; exact e4, q2⟩
/-- .. that may end all -/
theorem Rf.thnO {o : Option (β ⊕ ρ)} {K : β ⊕ ρ → Option α} (J : β → Z → Prop) (RT : ρ → Fl → Z → Prop) (h1 : Rf o a z fun v f z' => match v with | .inl v => f = .nx ∧ J v z' | .inr r => (∃ d, f = .rt d) ∧ RT r f z') (k : ∀ v z', J v z' → Rf (K (.inl v)) rest z' Φ)
    (q : ∀ r r' f z', K (.inr r) = some r' → (∃ d, f = .rt d) ∧ RT r f z' → Φ r' f z') : Rf (o.bind K) (C.seq a rest) z Φ := fun r e => by
  obtain ⟨t, e1, e2⟩ := bI e
  obtain ⟨f, z', e3, p⟩ := h1 t e1
  cases t with
  | inl v =>
    obtain ⟨rfl, p⟩ := p
    obtain ⟨f2, z2, e4, q2⟩ := k v z' p r e2
    exact ⟨f2, z2, by rw [seq_nx e3]; exact e4, q2⟩
  | inr u =>
    have q2 := q u r f z' e2 p
    obtain ⟨⟨d, rfl⟩, _⟩ := p
    exact ⟨_, _, cs_rt e3, q2⟩
theorem Rf.loopN {it : It} {g : G} {f : β → σ → Option σ} (hk : it.chk = none) (e : β → D) (J : σ → Z → Prop) (step : ∀ x v z, J v z → ∃ z1, g.run (e x) z = some z1 ∧ Rf (f x v) b z1 fun v f z' => (f = .nx ∨ f = .ct) ∧ J v z') : ∀ (xs : List β) (v : σ) (z : Z), J v z → Rf (Pl.forN f xs v) (C.loop it g b (xs.map e)) z fun v f z' => f = .nx ∧ J v z'
  | [], v, z, j => fun r q => by
    cases q
    exact ⟨_, _, loop_nil hk, rfl, j⟩
  | x :: xs, v, z, j => fun r q => by
    obtain ⟨t, q1, q2⟩ := bI (show (f x v).bind (fun s => Pl.forN f xs s) = some r from q)
    obtain ⟨z1, g1, w⟩ := step x v z j
    obtain ⟨fl, z2, w1, w2, j2⟩ := w t q1
    obtain ⟨f3, z3, w3, w4⟩ := Rf.loopN hk e J step xs t z2 j2 r q2
    refine ⟨f3, z3, ?_, w4⟩
    rw [List.map_cons]
    rcases w2 with rfl | rfl
    · exact loop_cons hk g1 w1 w3
    · exact loop_cons hk g1 w1 w3
theorem Rf.forN {mi : M It} {g : G} {f : β → σ → Option σ} {xs : List β} {v : σ} (e : β → D) (J : σ → Z → Prop) (hm : mi z = some (⟨xs.map e, none⟩, z1)) (h0 : J v z1) (step : ∀ x v z, J v z → ∃ z1, g.run (e x) z = some z1 ∧ Rf (f x v) b z1 fun v f z' => (f = .nx ∨ f = .ct) ∧ J v z') : Rf (Pl.forN f xs v) (C.for_ mi g b) z fun v f z' => f = .nx ∧ J v z' := fun r q => by
  obtain ⟨f3, z3, w3, w4⟩ := Rf.loopN (it := ⟨xs.map e, none⟩) rfl e J step xs v z1 h0 r q
  exact ⟨f3, z3, cs_for hm w3, w4⟩
theorem Rf.loopO {it : It} {g : G} {f : β → σ → Option (Pl.Out σ ρ)} (hk : it.chk = none) (e : β → D) (J : σ → Z → Prop) (RT : ρ → Fl → Z → Prop) (step : ∀ x v z, J v z → ∃ z1, g.run (e x) z = some z1 ∧ Rf (f x v) b z1 fun v f z' => match v with | .go v => (f = .nx ∨ f = .ct) ∧ J v z' | .brk v => f = .bk ∧ J v z' | .ret r => (∃ d, f = .rt d) ∧ RT r f z') :
    ∀ (xs : List β) (v : σ) (z : Z), J v z → Rf (Pl.forO f xs v) (C.loop it g b (xs.map e)) z fun v f z' => match v with | .inl v => f = .nx ∧ J v z' | .inr r => (∃ d, f = .rt d) ∧ RT r f z'
  | [], v, z, j => fun r q => by
    cases q
    exact ⟨_, _, loop_nil hk, rfl, j⟩
  | x :: xs, v, z, j => fun r q => by
    obtain ⟨z1, g1, w⟩ := step x v z j
    rw [Pl.forO] at q
    rw [List.map_cons]
    cases hf : f x v with
    | none => rw [hf] at q; cases q
    | some u =>
      rw [hf] at q
      obtain ⟨fl, z2, w1, w2⟩ := w u hf
      cases u with
      | go v2 =>
        obtain ⟨w2, j2⟩ := w2
        obtain ⟨f3, z3, w3, w4⟩ := Rf.loopO hk e J RT step xs v2 z2 j2 r q
        refine ⟨f3, z3, ?_, w4⟩
        rcases w2 with rfl | rfl
        · exact loop_cons hk g1 w1 w3
        · exact loop_cons hk g1 w1 w3
      | brk v2 =>
        obtain ⟨rfl, j2⟩ := w2
        cases q
        exact ⟨_, _, loop_cons hk g1 w1 rfl, rfl, j2⟩
      | ret r2 =>
        cases q
        have w3 := w2
        obtain ⟨⟨d, rfl⟩, _⟩ := w2
        exact ⟨_, _, loop_cons hk g1 w1 rfl, w3⟩
theorem Rf.forO {mi : M It} {g : G} {f : β → σ → Option (Pl.Out σ ρ)} {xs : List β} {v : σ} (e : β → D) (J : σ → Z → Prop) (RT : ρ → Fl → Z → Prop) (hm : mi z = some (⟨xs.map e, none⟩, z1)) (h0 : J v z1) (step : ∀ x v z, J v z → ∃ z1, g.run (e x) z = some z1 ∧ Rf (f x v) b z1 fun v f z' => match v with | .go v => (f = .nx ∨ f = .ct) ∧ J v z' | .brk v => f = .bk ∧ J v z' | .ret r => (∃ d, f = .rt d) ∧ RT r f z') :
    Rf (Pl.forO f xs v) (C.for_ mi g b) z fun v f z' => match v with | .inl v => f = .nx ∧ J v z' | .inr r => (∃ d, f = .rt d) ∧ RT r f z' := fun r q => by
  obtain ⟨f3, z3, w3, w4⟩ := Rf.loopO (it := ⟨xs.map e, none⟩) rfl e J RT step xs v z1 h0 r q
  exact ⟨f3, z3, cs_for hm w3, w4⟩
theorem Rf.whO {tt : M Bool} {t : σ → Option Bool} {f : σ → Option (Pl.Out σ ρ)} {v : σ} (J : σ → Z → Prop) (RT : ρ → Fl → Z → Prop) (test : ∀ v z, J v z → ∀ p, t v = some p → ∃ z1, tt z = some (p, z1) ∧ J v z1) (step : ∀ v z, J v z → Rf (f v) b z fun v f z' => match v with | .go v => (f = .nx ∨ f = .ct) ∧ J v z' | .brk v => f = .bk ∧ J v z' | .ret r => (∃ d, f = .rt d) ∧ RT r f z') (h0 : J v z) :
    Rf (Pl.whO t f v) (C.whl tt b) z fun v f z' => match v with | .inl v => f = .nx ∧ J v z' | .inr r => (∃ d, f = .rt d) ∧ RT r f z' := fun r q => by
  have key := Pl.whO.partial_correctness t f (fun v r => ∀ z, J v z → ∃ fl z', C.whl tt b z = some (fl, z') ∧ match r with | .inl v => fl = .nx ∧ J v z' | .inr r => (∃ d, fl = .rt d) ∧ RT r fl z') (fun W ih v r e z j => by
    cases ht : t v with
    | none => rw [ht] at e; cases e
    | some p =>
      rw [ht] at e
      obtain ⟨z1, w1, j1⟩ := test v z j p ht
      cases p with
      | false =>
        cases e
        exact ⟨_, _, whl_f w1, rfl, j1⟩
      | true =>
        dsimp only at e
        cases hf : f v with
        | none => rw [hf] at e; cases e
        | some u =>
          rw [hf] at e
          obtain ⟨fl, z2, w2, w3⟩ := step v z1 j1 u hf
          cases u with
          | go v2 =>
            obtain ⟨w3, j2⟩ := w3
            obtain ⟨f3, z3, w4, w5⟩ := ih v2 r e z2 j2
            refine ⟨f3, z3, ?_, w5⟩
            rw [C.whl, w1]
            dsimp only
            rw [w2]
            rcases w3 with rfl | rfl
            · exact w4
            · exact w4
          | brk v2 =>
            obtain ⟨rfl, j2⟩ := w3
            cases e
            exact ⟨_, _, whl_bk w1 w2, rfl, j2⟩
          | ret r2 =>
            cases e
            have w4 := w3
            obtain ⟨⟨d, rfl⟩, _⟩ := w3
            exact ⟨_, _, whl_rt w1 w2, w4⟩)
  exact key v r q z h0
theorem Rf.fn {n k : Nat} {ds : List D} {e : α → D} {hp : α → List D} {r : α} (hl : ds.length = k) (hs : slots n ds = s) (hb : Rf o c ⟨s, h⟩ fun r f z' => (f = .rt (e r) ∨ (f = .nx ∧ e r = .non)) ∧ z'.h = hp r) (hr : o = some r) : Mi.fn n k c ds h = some (e r, hp r) := by
  obtain ⟨f, z', e1, q, q2⟩ := hb r hr
  unfold Mi.fn
  rw [if_pos hl, hs, e1]
  rcases q with rfl | ⟨rfl, q⟩
  · rw [← q2]
  · rw [← q2, q]
end
/-! ### expressions -/
section
variable {α β γ : Type} {x y d : D} {a b m : M D} {t u : M Bool} {z z1 z2 : Z} {s s' s2 : List Sl} {h h1 : List D} {i j k : Int} {p q : Bool}
theorem ev_mulP (h1 : a z = some (.int i, z1)) (h2 : b z1 = some (.int j, z2)) (e : Pl.mul i j = some k) : E.op O.mul a b z = some (.int k, z2) := by
  unfold Pl.mul at e
  split at e
  · rename_i c
    cases e
    exact ev_op h1 h2 (mul_v c.1 c.2)
  · cases e
theorem ev_divP (h1 : a z = some (.int i, z1)) (h2 : b z1 = some (.int j, z2)) (e : Pl.div i j = some k) : E.op O.div a b z = some (.int k, z2) := by
  unfold Pl.div at e
  split at e
  · rename_i c
    cases e
    exact ev_op h1 h2 (div_v c.1 c.2)
  · cases e
theorem ev_modP (h1 : a z = some (.int i, z1)) (h2 : b z1 = some (.int j, z2)) (e : Pl.mod i j = some k) : E.op O.mod a b z = some (.int k, z2) := by
  unfold Pl.mod at e
  split at e
  · rename_i c
    cases e
    exact ev_op h1 h2 (mod_v c)
  · cases e
theorem atI_map {xs : List α} {e : α → D} {r : α} (h : Pl.at_ xs i = some r) : atI (xs.map e) i = some (e r) := by
  unfold Pl.at_ atI at h
  unfold atI
  rw [List.length_map]
  cases hn : ixN xs.length i with
  | none => rw [hn] at h; cases h
  | some n =>
    rw [hn] at h
    have h : xs[n]? = some r := h
    show (xs.map e)[n]? = _
    rw [List.getElem?_map, h]
    rfl
theorem ev_ixP {tt : Bool} {xs : List α} {e : α → D} {r : α} (h1 : a z = some (x, z1)) (h2 : b z1 = some (.int i, z2)) (h3 : cont x z2 = some (tt, xs.map e)) (h4 : Pl.at_ xs i = some r) : E.op O.ix a b z = some (e r, z2) := ev_ix h1 h2 h3 (atI_map h4)
theorem ev_andO {o : Option Bool} {r : Bool} (h1 : a z = some (.bl p, z)) (h2 : ∀ q, o = some q → b z = some (.bl q, z)) (e : Pl.andO p o = some r) : E.and a b z = some (.bl r, z) := by
  unfold Pl.andO at e
  cases p with
  | true => rw [ev_and h1 fun _ => h2 r e]; rfl
  | false => cases e; rw [ev_and (q := true) h1 fun h => nomatch h]; rfl
theorem ev_orO {o : Option Bool} {r : Bool} (h1 : a z = some (.bl p, z)) (h2 : ∀ q, o = some q → b z = some (.bl q, z)) (e : Pl.orO p o = some r) : E.or a b z = some (.bl r, z) := by
  unfold Pl.orO at e
  cases p with
  | true => cases e; rw [ev_or (q := true) h1 fun h => nomatch h]; rfl
  | false => rw [ev_or h1 fun _ => h2 r e]; rfl
theorem tt_andO {o : Option Bool} {r : Bool} (h1 : t z = some (p, z)) (h2 : ∀ q, o = some q → u z = some (q, z)) (e : Pl.andO p o = some r) : T.and t u z = some (r, z) := by
  unfold Pl.andO at e
  cases p with
  | true => rw [tt_and h1 fun _ => h2 r e]; rfl
  | false => cases e; rw [tt_and (q := true) h1 fun h => nomatch h]; rfl
theorem tt_orO {o : Option Bool} {r : Bool} (h1 : t z = some (p, z)) (h2 : ∀ q, o = some q → u z = some (q, z)) (e : Pl.orO p o = some r) : T.or t u z = some (r, z) := by
  unfold Pl.orO at e
  cases p with
  | true => cases e; rw [tt_or (q := true) h1 fun h => nomatch h]; rfl
  | false => rw [tt_or h1 fun _ => h2 r e]; rfl
theorem ev_iteE {e : α → D} {v w : α} (h1 : t z = some (p, z1)) (h2 : a z1 = some (e v, z2)) (h3 : b z1 = some (e w, z2)) : E.ite t a b z = some (e (if p = true then v else w), z2) := by
  cases p with
  | true => exact ev_iteT h1 h2
  | false => exact ev_iteF h1 h3
theorem ev_iteO {e : α → D} {ov ow : Option α} {r : α} (h1 : t z = some (p, z1)) (h2 : ∀ v, ov = some v → a z1 = some (e v, z2)) (h3 : ∀ v, ow = some v → b z1 = some (e v, z2)) (hr : (if p = true then ov else ow) = some r) : E.ite t a b z = some (e r, z2) := by
  cases p with
  | true => exact ev_iteT h1 (h2 r hr)
  | false => exact ev_iteF h1 (h3 r hr)
/-- what is not None is what it is -/
theorem ev_unO {e : α → D} {o : Option α} {r : α} (h1 : m z = some (eO e o, z1)) (hr : o = some r) : m z = some (e r, z1) := by subst hr; exact h1
theorem nonE {e : α → D} (he : ∀ x, isNon (e x) = false) (o : Option α) : isNon (eO e o) = o.isNone := by
  cases o with
  | none => rfl
  | some x => exact he x
theorem notNonE {e : α → D} (he : ∀ x, isNon (e x) = false) (o : Option α) : (!isNon (eO e o)) = o.isSome := by
  cases o with
  | none => rfl
  | some x => exact congrArg not (he x)
theorem pureO {e : α → D} (he : ∀ x, isPure (e x) = true) (o : Option α) : isPure (eO e o) = true := by
  cases o with
  | none => rfl
  | some x => exact he x
theorem ev_rngP {ma mb : M D} {r : List Int} (h1 : ma z = some (.int i, z1)) (h2 : mb z1 = some (.int j, z2)) (hr : Pl.rngO i j = some r) : I.rng2 ma mb z = some (⟨r.map eI, none⟩, z2) := by
  unfold Pl.rngO at hr
  split at hr
  · rename_i c
    cases hr
    rw [ev_rng2 h1 h2 c]
    unfold I.irng Pl.rng
    rw [List.map_map]
    rfl
  · cases hr
theorem ev_rngP1 {ma : M D} {r : List Int} (h1 : ma z = some (.int j, z1)) (hr : Pl.rngO 0 j = some r) : I.rng1 ma z = some (⟨r.map eI, none⟩, z1) := by
  unfold Pl.rngO at hr
  split at hr
  · rename_i c
    cases hr
    rw [ev_rng1 h1 c.2]
    unfold I.irng Pl.rng
    rw [List.map_map, Int.sub_zero]
    rfl
  · cases hr
theorem ev_itsP {xs : List α} {e : α → D} (h1 : a z = some (x, z1)) (h2 : itemsOf x = some (xs.map e)) : I.seq a z = some (⟨xs.map e, none⟩, z1) := ev_seq h1 h2
theorem ev_itsC {xs : List α} {e : α → D} (h1 : a z = some (x, z1)) (h2 : itemsOf x = some (xs.map e)) : I.seqC a z = some (⟨xs.map e, none⟩, z1) := ev_seqC h1 h2
theorem F_lenM {xs : List α} {e : α → D} {tt : Bool} (h : cont x z = some (tt, xs.map e)) : F.len [x] z = some (.int xs.length) := by
  rw [lf_len h, List.length_map]
theorem tru_map {xs : List α} {e : α → D} : O.tru (.lst (xs.map e)) z = some (!xs.isEmpty) := by cases xs <;> rfl
theorem tru_own {xs : List α} {e : α → D} {n : Nat} (h : z.s[n]? = some (.own (.lst (xs.map e)))) : O.tru (.own n) z = some (!xs.isEmpty) := by
  unfold O.tru cont
  dsimp only
  rw [h]
  cases xs <;> rfl
theorem F_all {bs : List Bool} (h : cont x z = some (false, bs.map eB)) : F.all1 [x] z = some (.bl (bs.all id)) := by
  show (F.lstB x z).map (fun bs => D.bl (bs.all id)) = _
  unfold F.lstB
  rw [h]
  dsimp only
  have e : ∀ bs : List Bool, F.ofBools (bs.map eB) = some bs := fun bs => by
    induction bs with
    | nil => rfl
    | cons b bs ih => rw [List.map_cons, F.ofBools, ih]; rfl
  rw [e]; rfl
theorem F_any {bs : List Bool} (h : cont x z = some (false, bs.map eB)) : F.any1 [x] z = some (.bl (bs.any id)) := by
  show (F.lstB x z).map (fun bs => D.bl (bs.any id)) = _
  unfold F.lstB
  rw [h]
  dsimp only
  have e : ∀ bs : List Bool, F.ofBools (bs.map eB) = some bs := fun bs => by
    induction bs with
    | nil => rfl
    | cons b bs ih => rw [List.map_cons, F.ofBools, ih]; rfl
  rw [e]; rfl
theorem ofInts_map (ns : List Int) : F.ofInts (ns.map eI) = some ns := by
  induction ns with
  | nil => rfl
  | cons b bs ih => rw [List.map_cons, F.ofInts, ih]; rfl
theorem F_sum {ns : List Int} (h : cont x z = some (false, ns.map eI)) : F.sum [x] z = some (.int ns.sum) := by
  show (F.lstI x z).map (fun ns => D.int ns.sum) = _
  unfold F.lstI
  rw [h]
  dsimp only
  rw [ofInts_map]; rfl
theorem F_maxR {ns : List Int} {tt : Bool} {r : Int} (h : cont x z = some (tt, ns.map eI)) (hr : F.maxL ns = some r) : F.maxR [x] z = some (.int r) := by
  cases ns with
  | nil => cases hr
  | cons n ns =>
    cases hr
    exact lf_maxR h (ofInts_map (n :: ns))
theorem F_minR {ns : List Int} {tt : Bool} {r : Int} (h : cont x z = some (tt, ns.map eI)) (hr : F.minL ns = some r) : F.minR [x] z = some (.int r) := by
  cases ns with
  | nil => cases hr
  | cons n ns =>
    cases hr
    exact lf_minR h (ofInts_map (n :: ns))
end
/-! ### comprehensions -/
section
variable {α β σ : Type} {z z1 : Z} {s s' s2 : List Sl} {h : List D}
theorem cmp_loop {it : It} {g : G} {vs : List Nat} {tt : M Bool} {te : M D} {t : α → Option Bool} {f : α → Option β} (e : α → D) (e' : β → D) (ok : it.ok ⟨s', h⟩ = true)
    (step : ∀ x, ∃ za sa, g.run (e x) ⟨s', h⟩ = some za ∧ (∀ b, t x = some b → tt za = some (b, ⟨sa, h⟩)) ∧ N.wipe sa vs = s' ∧ (∀ y, f x = some y → ∃ sb, te ⟨sa, h⟩ = some (e' y, ⟨sb, h⟩) ∧ isPure (e' y) = true ∧ N.wipe sb vs = s')) :
    ∀ (xs : List α) (acc : List D) (ys : List β), Pl.cmp t f xs = some ys → N.loop it g vs tt te (xs.map e) acc ⟨s', h⟩ = some (acc ++ ys.map e', ⟨s', h⟩)
  | [], acc, ys, q => by
    cases q
    rw [List.map_nil, N.loop, if_pos ok, List.map_nil, List.append_nil]
  | x :: xs, acc, ys, q => by
    obtain ⟨za, sa, g1, t1, w1, f1⟩ := step x
    obtain ⟨b, q1, q2⟩ := bI (show (t x).bind _ = some ys from q)
    rw [List.map_cons, N.loop, if_pos ok, g1]
    dsimp only
    rw [t1 b q1]
    cases b with
    | false =>
      dsimp only
      rw [w1]
      exact cmp_loop e e' ok step xs acc ys q2
    | true =>
      obtain ⟨y, q3, q4⟩ := bI (show (f x).bind _ = some ys from q2)
      obtain ⟨ys2, q5, q6⟩ := bI q4
      cases q6
      obtain ⟨sb, f2, f3, f4⟩ := f1 y q3
      dsimp only
      rw [f2]
      dsimp only
      rw [if_pos f3, f4, cmp_loop e e' ok step xs _ ys2 q5, List.append_assoc]
      rfl
theorem ev_cmp {mi : M It} {chk : Option D} {g : G} {vs : List Nat} {tt : M Bool} {te : M D} {t : α → Option Bool} {f : α → Option β} {xs : List α} {ys : List β} (e : α → D) (e' : β → D) (hm : mi z = some (⟨xs.map e, chk⟩, ⟨s, h⟩)) (ho : (vs.all fun v => !N.isOwn s[v]?) = true) (hw : N.wipe s vs = s') (ok : (⟨xs.map e, chk⟩ : It).ok ⟨s', h⟩ = true) (hr : N.rest s s' vs = s2)
    (step : ∀ x, ∃ za sa, g.run (e x) ⟨s', h⟩ = some za ∧ (∀ b, t x = some b → tt za = some (b, ⟨sa, h⟩)) ∧ N.wipe sa vs = s' ∧ (∀ y, f x = some y → ∃ sb, te ⟨sa, h⟩ = some (e' y, ⟨sb, h⟩) ∧ isPure (e' y) = true ∧ N.wipe sb vs = s'))
    (q : Pl.comp t f xs = some ys) : N.comp mi g vs tt te z = some (ys.map e', ⟨s2, h⟩) := by
  unfold Pl.comp at q
  split at q
  · rename_i hl
    have k := cmp_loop e e' ok step xs [] ys q
    rw [List.nil_append] at k
    exact ev_compN hm (by rw [List.length_map]; exact hl) ho hw k hr
  · cases q
/-- .. the heap goes on with a state -/
theorem cmpS_loop {it : It} {g : G} {vs : List Nat} {te : M D} {f : α → σ → Option (β × σ)} (e : α → D) (e' : β → D) (hp : σ → List D) (hk : it.chk = none)
    (step : ∀ x v, ∃ za, g.run (e x) ⟨s', hp v⟩ = some za ∧ (∀ y, f x v = some y → ∃ sb, te za = some (e' y.1, ⟨sb, hp y.2⟩) ∧ isPure (e' y.1) = true ∧ N.wipe sb vs = s')) :
    ∀ (xs : List α) (v : σ) (acc : List D) (r : List β × σ), Pl.cmpS f xs v = some r → N.loop it g vs (Mi.ret true) te (xs.map e) acc ⟨s', hp v⟩ = some (acc ++ r.1.map e', ⟨s', hp r.2⟩)
  | [], v, acc, r, q => by
    cases q
    have ok : it.ok ⟨s', hp v⟩ = true := by unfold It.ok; rw [hk]
    rw [List.map_nil, N.loop, if_pos ok, List.map_nil, List.append_nil]
  | x :: xs, v, acc, r, q => by
    have ok : it.ok ⟨s', hp v⟩ = true := by unfold It.ok; rw [hk]
    obtain ⟨za, g1, f1⟩ := step x v
    obtain ⟨y, q1, q2⟩ := bI (show (f x v).bind _ = some r from q)
    obtain ⟨r2, q3, q4⟩ := bI q2
    cases q4
    obtain ⟨sb, f2, f3, f4⟩ := f1 y q1
    rw [List.map_cons, N.loop, if_pos ok, g1]
    show (match te za with | none => none | some (x, z3) => if isPure x = true then N.loop it g vs (Mi.ret true) te (xs.map e) (acc ++ [x]) ⟨N.wipe z3.s vs, z3.h⟩ else none) = _
    rw [f2]
    dsimp only
    rw [if_pos f3, f4, cmpS_loop e e' hp hk step xs _ _ r2 q3, List.append_assoc]
    rfl
theorem ev_cmpS {mi : M It} {g : G} {vs : List Nat} {te : M D} {f : α → σ → Option (β × σ)} {xs : List α} {v : σ} {r : List β × σ} (e : α → D) (e' : β → D) (hp : σ → List D) (hm : mi z = some (⟨xs.map e, none⟩, ⟨s, hp v⟩)) (ho : (vs.all fun v => !N.isOwn s[v]?) = true) (hw : N.wipe s vs = s') (hr : N.rest s s' vs = s2)
    (step : ∀ x v, ∃ za, g.run (e x) ⟨s', hp v⟩ = some za ∧ (∀ y, f x v = some y → ∃ sb, te za = some (e' y.1, ⟨sb, hp y.2⟩) ∧ isPure (e' y.1) = true ∧ N.wipe sb vs = s'))
    (q : Pl.compS f xs v = some r) : N.comp mi g vs (Mi.ret true) te z = some (r.1.map e', ⟨s2, hp r.2⟩) := by
  unfold Pl.compS at q
  split at q
  · rename_i hl
    have k := cmpS_loop (it := ⟨xs.map e, none⟩) (te := te) e e' hp rfl step xs v [] r q
    rw [List.nil_append] at k
    exact ev_compN hm (by rw [List.length_map]; exact hl) ho hw k hr
  · cases q
end
end Mi

set_option Elab.async false
set_option linter.all false
set_option maxRecDepth 100000
/-! Mi, part U: sorted(xs, key=lambda x: (x[i], x[j], ..)). -/
namespace Mi
open PySem PySem.Spec PyProof.Rows L2 PySem.W
def intAt (xs : List D) (i : Nat) : Option Int := match xs[i]? with
  | some (D.int n) => some n
  | _ => none
def keyI (iz : List Nat) : D → Option (List Int)
  | .tup xs => iz.mapM (intAt xs)
  | _ => none
/-- the key of a tuple by some of its places -/
def ikey (iz : List Nat) (d : D) : PyData := .tuple (((keyI iz d).getD []).map .int)
def N.sortedK (iz : List Nat) (m : M D) : M (List D) := bnd m fun x z => match cont x z with
  | some (false, ds) => if ds.length ≤ szl ∧ (ds.all fun d => (keyI iz d).isSome) = true then some (srt (ikey iz) ds, z) else none
  | _ => none
/-- the elements of the lambda's tuple -/
inductive KeyEs (x : Str) : List Expr → List Nat → Prop
  | nil : KeyEs x [] []
  | cons {p1 p2 p3 : Pos} {j} {n : Nat} {es : List Expr} {iz : List Nat} : KeyEs x es iz → KeyEs x (.Subscript (.Name x p1) (.Constant (.int (n : Int)) j p2) p3 :: es) (n :: iz)
theorem alike_ints : ∀ ns ms : List Int, alikeAll (ns.map PyData.int) (ms.map PyData.int) = true
  | [], _ => rfl
  | _ :: _, [] => rfl
  | n :: ns, m :: ms => by
    rw [List.map_cons, List.map_cons, alikeAll, alike, alike_ints ns ms]
    rfl
theorem ikey_alike (iz : List Nat) (ds : List D) : AllAlike (ds.map (ikey iz)) := by
  intro a ha b hb
  obtain ⟨x, _, rfl⟩ := List.mem_map.mp ha
  obtain ⟨y, _, rfl⟩ := List.mem_map.mp hb
  unfold ikey
  rw [alike]
  exact alike_ints _ _
theorem keyI_len {xs : List D} : ∀ {iz : List Nat} {ns : List Int}, iz.mapM (intAt xs) = some ns → ns.length = iz.length
  | [], ns, h => by
    rw [List.mapM_nil] at h
    cases h
    rfl
  | i :: iz, ns, h => by
    rw [List.mapM_cons] at h
    obtain ⟨n, h1, h2⟩ := bI h
    obtain ⟨ms, h3, h4⟩ := bI h2
    cases h4
    rw [List.length_cons, List.length_cons, keyI_len h3]
theorem ikey_sortable {iz : List Nat} {ds : List D} (hz : iz ≠ []) (h : (ds.all fun d => (keyI iz d).isSome) = true) : PySem.W.Sortable (ds.map (ikey iz)) := by
  refine .inl fun a ha => ?_
  obtain ⟨x, hx, rfl⟩ := List.mem_map.mp ha
  have q := List.all_eq_true.mp h x hx
  unfold ikey
  cases hk : keyI iz x with
  | none => rw [hk] at q; cases q
  | some ns =>
    rw [Option.getD_some]
    have hl : ns.length = iz.length := by
      cases x with
      | tup xs => exact keyI_len hk
      | _ => cases hk
    cases ns with
    | nil =>
      cases iz with
      | nil => exact absurd rfl hz
      | cons _ _ => cases hl
    | cons n ns => exact ⟨_, _, rfl⟩
theorem ikey_depth (iz : List Nat) (d : D) : (ikey iz d).depth ≤ 1 := by
  have k : ∀ ns : List Int, PyData.depthAll (ns.map PyData.int) = 0 := fun ns => by
    induction ns with
    | nil => simp [PyData.depthAll]
    | cons n ns ih => simp [PyData.depthAll, PyData.depth, ih]
  unfold ikey
  simp [PyData.depth, k]
/-! ### the lambda, raw -/
section
variable {prog : Program} {w : World} {A : Around} {E : Value → Shared → Prop} {s : Shared} {env : Env} {m : Str → Option Value} {x : Str} {t : Addr} {its : Array Value}
/-- which numbers stand at the places -/
def IntsAt (its : Array Value) : List Nat → List Int → List Value → Prop
  | [], [], [] => True
  | i :: iz, n :: ns, v :: vs => (∃ tk, v = .int n tk ∧ its[i]? = some v) ∧ IntsAt its iz ns vs
  | _, _, _ => False
theorem IntsAt.ints {its : Array Value} : ∀ {iz : List Nat} {ns : List Int} {vs : List Value} {h : Heap}, IntsAt its iz ns vs → ReadsAll h vs (ns.map PyData.int) []
  | [], [], [], _, _ => .nil
  | i :: iz, n :: ns, v :: vs, h, ⟨⟨tk, e, _⟩, r⟩ => by
    subst e
    exact ReadsAll.cons (as := []) (bs := []) (.int n tk) (IntsAt.ints r)
theorem key_args {pos : Pos} (hk : env.scope.kind = .function) (hl : env.kindOf x = some .local) (hd : (x == ("__debug__" : Str)) = false) (hm : m x = some (.ref t)) (hz : its.size ≤ sizeLine) {es : List Expr} {iz : List Nat} (ke : KeyEs x es iz) :
    ∀ {ns : List Int} {vs : List Value} {s : Shared} {Q : List Value → Shared → Prop}, s.heap.Ns env.locals m → IsTup s.heap t its → IntsAt its iz ns vs → (∀ tk, Q vs { s with toks := tk }) → wpAny (model prog w) A (spliced (backTo pos (starEach es env))) Q E s := by
  induction ke with
  | nil =>
    intro ns vs s Q hn ht hi hq
    cases ns <;> cases vs <;> first | exact hi.elim | exact args_nil (hq s.toks)
  | @cons p1 p2 p3 j n es iz ke ih =>
    intro ns vs s Q hn ht hi hq
    cases ns with
    | nil => cases vs <;> exact hi.elim
    | cons i ns =>
      cases vs with
      | nil => exact hi.elim
      | cons v vs =>
        obtain ⟨⟨tk, e, hv⟩, hi⟩ := hi
        have hlt : n < its.size := (Array.getElem?_eq_some_iff.mp hv).1
        have hln := line63
        refine args_cons (Subscript_ (wpAny_Name (wpAny_loadName_local hk hl hn hm (wpAny_Constant_int ?_)) hd)) rfl
        refine subscriptTail_builtinR (x := v) (s := { s with toks := s.toks + 1 }) (T := "tuple") ⟨_, ht.choose_spec.1, ht.choose_spec.2.1⟩ slot_tuple_getitem.lookup (getItem_tuple (j := n) (x := v) (s := { s with toks := s.toks + 1 }) ht (by omega) (by omega) ?_ hv ⟨rfl, ?_⟩) (by with_unfolding_all rfl)
        · rw [seqIndex_of (by omega) (by omega)]
          rw [Int.toNat_natCast]
        · exact ih (s := { s with toks := s.toks + 1 }) hn ht hi fun tk => hq tk
end
/-- the lambda's scope: its parameter, no other name of its own -/
structure Lam1 (x : Str) (params : Arguments) (scope : Scope) : Prop where
  kind : scope.kind = .function
  co : scope.isCoroutine = false
  gen : scope.isGenerator = false
  noCell : ∀ y ∈ scope.names, y.2 ≠ .cell
  noFree : ∀ y ∈ scope.names, y.2 ≠ .free
  loc : scope.names.lookup x = some .local
  bind : ∀ (q : Str) (body : Expr) (pm c ct v : Value), bindArgs (kla_fn "<lambda>" q params body scope [] pm c ct) ⟨[v], []⟩ = pure [(x, v)]
  df : ∀ env : Env, defaultsOf params env = ([], [])
  dbg : (x == ("__debug__" : Str)) = false
theorem clo_nil {cells : List (Str × Addr)} : ∀ {ns : List (Str × NameKind)} {acc : List (Str × Addr)}, (∀ y ∈ ns, y.2 ≠ .free) → cloFrom cells ns acc = acc
  | [], acc, _ => rfl
  | (n, k) :: r, acc, h => by
    have hk : (k == NameKind.free) = false := by
      have := h _ List.mem_cons_self
      cases k <;> first | rfl | exact absurd rfl this
    rw [cloFrom, hk]
    exact clo_nil fun y hy => h y (List.mem_cons_of_mem _ hy)
/-- the lambda called with one tuple -/
theorem lam_key {q : Str} {params : Arguments} {scope : Scope} {es : List Expr} {kt : Nat} {pt : Pos} {pm ctv : Value} {f c' t : Addr} {its : Array Value} {iz : List Nat} {ns : List Int} {vs : List Value} (L : Lam1 x params scope) (ke : KeyEs x es iz) (dp : A.depth < recursionLimit) (lim : s.heap.NoLimit)
    (hf : s.heap.get? f = some (kla_obj "<lambda>" q params (.Tuple es kt pt) scope [] pm c' ctv)) (hc : s.heap.CodeRec (.ref c') q) (ht : IsTup s.heap t its) (hz : its.size ≤ sizeLine) (hi : IntsAt its iz ns vs) (hvl : vs.length ≤ sizeLine) :
    wpAny (model prog w) A (call (.ref f) [.ref t]) (KeyPure (.tuple (ns.map .int)) s) (fun _ _ => False) s := by
  refine wpAny_call (kla_callFunE dp hf rfl L.co L.gen rfl hc ?_)
  rw [L.bind]
  refine wpAny_pure (wpAny_newFunctionEnv L.noCell (fun y hy => ?_) (fun h₁ hns hsb => ⟨lim.fresh _ hsb, ?_⟩) L.kind)
  · rw [List.mem_singleton] at hy
    subst hy
    exact L.loc
  have kp : ∀ b o, s.heap.get? b = some o → h₁.get? b = some o := fun b o e => hsb.extBut b o (Nat.ne_of_lt (Heap.lt_size e)) (Heap.get?_push_of_some _ e)
  show codeAny _ _ (.expr _ (envX q scope s.heap.objs.size f (.ref c') [])) _ _
  refine kla_codeExpr (wpAny_Tuple_spliced (key_args (env := envX q scope s.heap.objs.size f (.ref c') []) (m := fun y => [(x, Value.ref t)].reverse.lookup y) (x := x) (t := t) (its := its) L.kind (show scope.names.lookup x = some .local from L.loc) L.dbg ?_ hz ke hns (ht.keeps kp) hi fun tk => ⟨hvl, ?_⟩))
  · show List.lookup x [(x, Value.ref t)] = _
    rw [List.lookup_cons, beq_self_eq_true]
  · refine ⟨_, tk, rfl, fun b o e => Heap.get?_push_of_some _ (kp b o e), ?_⟩
    exact Reads.tuple (Heap.get?_push_size _ rfl) rfl rfl hi.ints
/-! ### the lambda made: the table grows -/
def Made (P : Addr) (q : Str) (H H1 : Hp) : Prop := H1 = H ∨ ∃ (ps more : Array Value) (cn : Addr), H P = some (.tbl ps) ∧ H cn = none ∧ H1 = upd (upd H P (.tbl (ps ++ more))) cn (LamX.CodeO cn q) ∧ TriplesOk (ps ++ more).toList ∧
  ∀ (pos : Pos) (cv : Value), codeAmong pos (ps ++ more).toList = some cv → codeAmong pos ps.toList = some cv ∨ cv = .ref cn
theorem Made.keep {P : Addr} {q : Str} {H H1 : Hp} (m : Made P q H H1) {b : Addr} {o : HO} (e : H b = some o) (n : b ≠ P) : H1 b = some o := by
  rcases m with rfl | ⟨ps, more, cn, hP, hc, rfl, _, _⟩
  · exact e
  · rw [upd_ne (ne_of_none e hc), upd_ne n]
    exact e
theorem lam_make3 {X : Cx} {pins : List (Addr × Obj)} {σ : L2.St} {H : Hp} {s : Shared} {c P : Addr} {params : Arguments} {body : Expr} {scope : Scope} {pos : Pos} {E : Value → Shared → Prop} {Q : Value → Shared → Prop} {ps : Array Value} (I : Inv X pins σ H s) (TB : LamX.TabB X.base X.mg c P) (hcode : X.env.code = .ref c)
    (hP : H P = some (.tbl ps)) (ht : TriplesOk ps.toList) (ha : ∀ (pos : Pos) (cv : Value), codeAmong pos ps.toList = some cv → ∃ c, cv = .ref c ∧ H c = some (LamX.CodeO c (X.env.qual ++ "<lambda>"))) (hdef : defaultsOf params X.env = ([], [])) (hnf : ∀ y ∈ scope.names, y.2 ≠ .free)
    (h : ∀ (f cn : Addr) (pm ctv : Value) (H1 : Hp) (s1 : Shared), Inv X pins σ H1 s1 → Made P (X.env.qual ++ "<lambda>") H H1 → s1.heap.get? f = some (kla_obj "<lambda>" (X.env.qual ++ "<lambda>") params body scope [] pm cn ctv) → s1.heap.CodeRec (.ref cn) (X.env.qual ++ "<lambda>") → Q (.ref f) s1) :
    wpAny (model X.prog X.w) X.A (eval (.Lambda params body scope pos) X.env) Q E s := by
  have clo : closureFor scope X.env = pure [] := by
    have e := closure_ok (scope := scope) (env := X.env) fun y hy e => absurd e (hnf y hy)
    rw [clo_nil hnf] at e
    exact e
  have atP : s.heap.get? P = some { cls := .none, data := .fields ps } := I.hok P _ hP
  apply kla_eval hdef
  cases hc : codeAmong pos ps.toList with
  | none =>
    apply kla_makeFunction (mg := X.mg) (c := c) (P := P) (ps := ps) clo I.ok.glob (I.mod.glob.keeps I.bk) hcode (TB.code.keeps I.bk) atP ht hc TB.gP (TB.bm.keeps I.bk)
    intro cn ctv hp tk ext ge lt rec tab
    obtain ⟨c2, oc, vs, t, e2, hoc, hd, hv⟩ := rec
    cases e2
    refine h hp.objs.size cn ((X.mg "__name__").getD .none) ctv _ _ (LamX.inv_table (t' := tk) (q := X.env.qual ++ "<lambda>") (more := #[rawInt pos.line, rawInt pos.col, .ref cn]) I hP (fun b o hb e => Heap.get?_push_of_some _ (ext b o hb e)) (Heap.get?_push_of_some _ tab) ge ⟨oc, vs, t, Heap.get?_push_of_some _ hoc, hd, hv⟩) (.inr ⟨ps, _, cn, hP, I.hok.fresh ge, rfl, ?_, ?_⟩) (Heap.get?_push_size _ rfl) ⟨cn, oc, vs, t, rfl, Heap.get?_push_of_some _ hoc, hd, hv⟩
    · have eL : (ps ++ #[rawInt pos.line, rawInt pos.col, Value.ref cn]).toList = ps.toList ++ [rawInt pos.line, rawInt pos.col, .ref cn] := by simp
      rw [eL]
      exact PySem.TriplesOk_snoc _ _ _ _ ht
    · intro p2 cv hcv
      have eL : (ps ++ #[rawInt pos.line, rawInt pos.col, Value.ref cn]).toList = ps.toList ++ [rawInt pos.line, rawInt pos.col, .ref cn] := by simp
      rw [eL] at hcv
      exact LamX.among_app _ ht hcv
  | some cv =>
    obtain ⟨cn, rfl, hco⟩ := ha pos cv hc
    apply kla_makeFunctionHit (mg := X.mg) (c := c) (P := P) (ps := ps) clo I.ok.glob (I.mod.glob.keeps I.bk) hcode (TB.code.keeps I.bk) atP ht hc (TB.bm.keeps I.bk)
    intro ctv hp tk ext ge
    have J : Inv X pins σ H { s with heap := hp.push (kla_obj "<lambda>" (X.env.qual ++ "<lambda>") params body scope [] ((X.mg "__name__").getD .none) cn ctv), toks := tk } := I.kept fun b o e => Heap.get?_push_of_some _ (ext b o e)
    obtain ⟨⟨oc, vs, t, e1, e2, e3⟩, _⟩ := J.hok cn _ hco
    exact h hp.objs.size cn _ ctv H _ J (.inl rfl) (Heap.get?_push_size _ rfl) ⟨cn, oc, vs, t, rfl, e1, e2, e3⟩
/-- the relation behind it -/
theorem Rl.made {K : Kx} {B : Bs} {F : Hp} {rho : List Addr} {om : Nat → Option Addr} {z : Z} {σ : L2.St} {H H1 : Hp} {P : Addr} {q : Str} (R : Rl K B F rho om z σ H) (hp : (P, q) ∈ K.tb.t) (m : Made P q H H1) : ∃ F1, Same F F1 ∧ Rl K B F1 rho om z σ H1 := by
  have m0 := m
  rcases m with rfl | ⟨ps, more, cn, hP, hc, rfl, ht, hcs⟩
  · exact ⟨F, Same.refl F, R⟩
  have fc : F cn = none := R.rh.fro.free hc
  have sf : Same F (upd F cn (LamX.CodeO cn q)) := fun b o e => by rw [upd_ne (ne_of_none e fc)]; exact e
  have nP : ∀ (n : Nat) (a : Addr), rho[n]? = some a → a ≠ P := fun n a e c => R.rh.tr _ hp n (by rw [← c]; exact e)
  have nO : ∀ (i : Nat) (a : Addr), om i = some a → a ≠ P := fun i a e c => R.to _ hp i (by rw [← c]; exact e)
  have kO : ∀ (i : Nat) (a : Addr), om i = some a → upd (upd H P (.tbl (ps ++ more))) cn (LamX.CodeO cn q) a = H a := fun i a e => by
    obtain ⟨u, hu, _⟩ := R.oth i a e
    rw [hu]
    exact m0.keep hu (nO i a e)
  have kR : ∀ (n : Nat) (a : Addr), rho[n]? = some a → upd (upd H P (.tbl (ps ++ more))) cn (LamX.CodeO cn q) a = H a := fun n a e => by
    obtain ⟨u, hu, _⟩ := R.rh.there e
    rw [hu]
    exact m0.keep hu (nP n a e)
  have fF : ∀ {a : Addr} {u : HO}, H a = some u → F a = none → upd F cn (LamX.CodeO cn q) a = none := fun e e2 => by rw [upd_ne (ne_of_none e hc)]; exact e2
  refine ⟨upd F cn (LamX.CodeO cn q), sf, ⟨⟨fun b o e => ?_, R.rh.len, fun n d a h1 h2 => (R.rh.obs n d a h1 h2).mono sf (List.prefix_refl _) (kR n a h2), R.rh.inj, fun n a e => ?_, ⟨fun p hq => ?_, R.rh.tb.un, fun p hq => ?_⟩, R.rh.tr⟩, R.len, fun i x e => (R.sl i x e).mono sf (List.prefix_refl _) (kO i) rfl, R.oj, R.orr, fun i a e => ?_, fun i a e => ?_,
    fun a o e n => ?_, R.exf.trans sf, R.exr, fun a o e nt e2 n => ?_, R.nr, R.no, R.ow, R.to, R.mt⟩⟩
  · by_cases c : b = cn
    · subst c
      rw [upd_same] at e
      rw [upd_same]
      exact e
    · rw [upd_ne c] at e
      exact m0.keep (R.rh.fro _ _ e) fun c2 => by rw [c2, R.rh.tb.nf _ hp] at e; cases e
  · obtain ⟨u, hu, _⟩ := R.rh.there e
    exact fF hu (R.rh.nf n a e)
  · obtain ⟨qs, h1, h2, h3⟩ := R.rh.tb.tb p hq
    by_cases c : p.1 = P
    · have eq : p.2 = q := R.rh.tb.un p hq _ hp c
      rw [c, hP] at h1
      cases h1
      refine ⟨ps ++ more, by rw [c, upd_ne (ne_of_none hP hc), upd_same], ht, fun pos cv hcv => ?_⟩
      rcases hcs pos cv hcv with h | h
      · obtain ⟨c0, e1, e2⟩ := h3 pos cv h
        exact ⟨c0, e1, sf _ _ e2⟩
      · exact ⟨cn, h, by rw [eq]; exact upd_same⟩
    · exact ⟨qs, m0.keep h1 c, h2, fun pos cv hcv => by
        obtain ⟨c0, e1, e2⟩ := h3 pos cv hcv
        exact ⟨c0, e1, sf _ _ e2⟩⟩
  · obtain ⟨qs, h1, _⟩ := R.rh.tb.tb p hq
    exact fF h1 (R.rh.tb.nf p hq)
  · obtain ⟨u, hu, _⟩ := R.oth i a e
    exact fF hu (R.off i a e)
  · rw [kO i a e]
    exact R.oth i a e
  · exact m0.keep (R.frm a o e n) fun c => n (by rw [c]; exact R.mt _ hp)
  · exact fF (R.frm a o e n) (R.nF a o e nt e2 n)
/-! ### the rule -/
def IntsV (ys : List V) : List Nat → List Int → Prop
  | [], [] => True
  | i :: iz, n :: ns => ys[i]? = some (.int n) ∧ IntsV ys iz ns
  | _, _ => False
theorem IntsV.raw {ys : List V} {its : List Value} (r : Vals ys its) : ∀ {iz : List Nat} {ns : List Int}, IntsV ys iz ns → ∃ vs, IntsAt its.toArray iz ns vs ∧ vs.length = iz.length
  | [], [], _ => ⟨[], trivial, rfl⟩
  | i :: iz, n :: ns, ⟨h1, h2⟩ => by
    obtain ⟨vs, h3, h4⟩ := IntsV.raw r h2
    obtain ⟨u, e, ru⟩ := r.get h1
    obtain ⟨tk, rfl⟩ := ru
    exact ⟨.int n tk :: vs, ⟨⟨tk, rfl, by simpa using e⟩, h3⟩, by rw [List.length_cons, List.length_cons, h4]⟩
theorem IntsV.of {K : Kx} {F : Hp} {rho : List Addr} {xs : List D} {ys : List V} (r : Rps K F rho xs ys) : ∀ {iz : List Nat} {ns : List Int}, iz.mapM (intAt xs) = some ns → IntsV ys iz ns
  | [], ns, h => by
    rw [List.mapM_nil] at h
    cases h
    trivial
  | i :: iz, ns, h => by
    rw [List.mapM_cons] at h
    obtain ⟨n, h1, h2⟩ := bI h
    obtain ⟨ms, h3, h4⟩ := bI h2
    cases h4
    refine ⟨?_, IntsV.of r h3⟩
    unfold intAt at h1
    split at h1
    · rename_i k hx
      cases h1
      obtain ⟨v, e1, e2⟩ := r.get hx
      cases e2
      exact e1
    · cases h1
def rSrtL (K : PySem.W.Frag) (iz : List Nat) (P : Addr) (q : Str) (Q : VK) (v : V) (H1 : Hp) : Prop := ∃ (a : Addr) (xs : List V) (ds : List D) (T : V → D → Prop) (ps : Array Value), v = .ref a ∧ SqL K H1 a xs ∧ ds.length ≤ szl ∧
  EachIs (fun x d => (∃ (b : Addr) (ys : List V) (ns : List Int), x = V.ref b ∧ SqT K H1 b ys ∧ keyI iz d = some ns ∧ IntsV ys iz ns) ∧ T x d) xs ds ∧ (ds.all fun d => (keyI iz d).isSome) = true ∧
  H1 P = some (.tbl ps) ∧ TriplesOk ps.toList ∧ (∀ (pos : Pos) (cv : Value), codeAmong pos ps.toList = some cv → ∃ c, cv = .ref c ∧ H1 c = some (LamX.CodeO c q)) ∧
  ∀ (H2 : Hp) (ys : List V) (p : Addr), Made P q H1 H2 → EachIs T ys (srt (ikey iz) ds) → H2 p = none → Q (.ref p) (upd H2 p (.lst ys))
def tSrtL (K : PySem.W.Frag) (iz : List Nat) (P : Addr) (q : Str) (te : TE) : TE := fun σ H Q => te σ H fun v H1 => rSrtL K iz P q Q v H1
theorem Made.sql {K : PySem.W.Frag} {P : Addr} {q : Str} {H H1 : Hp} (m : Made P q H H1) {ps : Array Value} (hP : H P = some (.tbl ps)) {a : Addr} {xs : List V} (h : SqL K H a xs) : SqL K H1 a xs := by
  rcases h with (h | ⟨o, h⟩) | h
  · exact .inl (.inl (m.keep h fun c => by rw [c, hP] at h; cases h))
  · exact .inl (.inr ⟨o, m.keep h fun c => by rw [c, hP] at h; cases h⟩)
  · exact .inr h
theorem Made.sqt {K : PySem.W.Frag} {P : Addr} {q : Str} {H H1 : Hp} (m : Made P q H H1) {ps : Array Value} (hP : H P = some (.tbl ps)) {a : Addr} {xs : List V} (h : SqT K H a xs) : SqT K H1 a xs := by
  rcases h with (h | ⟨o, h⟩) | h
  · exact .inl (.inl (m.keep h fun c => by rw [c, hP] at h; cases h))
  · exact .inl (.inr ⟨o, m.keep h fun c => by rw [c, hP] at h; cases h⟩)
  · exact .inr h
section
variable {X : Cx} {Tb : Tbs}
theorem pe_srtL {x : Str} {iz : List Nat} {params : Arguments} {scope : Scope} {es : List Expr} {kt : Nat} {pt pl pk p pos : Pos} {c P : Addr} {e : Expr} {te : TE} (L : Lam1 x params scope) (ke : KeyEs x es iz) (hz : iz ≠ []) (hzl : iz.length ≤ 100) (dp : X.A.depth < recursionLimit) (hu : X.A.units + 64 < cLine) (TB : LamX.TabB X.base X.mg c P) (hcode : X.env.code = .ref c)
    (hg : Gl X "sorted") (hm : X.mg "sorted" = none) (ha : PE X e te) (hv : bootBuiltins "sorted" = some (.builtin "sorted") := by decide +kernel)
    (he : starEach [e] X.env = (false, eval e X.env) :: starEach [] X.env := by rfl) (he2 : backTo pos (starEach [e] X.env) = (false, eval e X.env) :: backTo pos (starEach [] X.env) := by rfl) (hpl : (backTo pos (starEach [e] X.env)).any (·.1) = false := by rfl) :
    PE X (.Call (.Name "sorted" p) [e] [⟨some "key", .Lambda params (.Tuple es kt pt) scope pl, pk⟩] pos) (tSrtL X.K iz P (X.env.qual ++ "<lambda>") te) := by
  refine ⟨fun pins s σ H Q I h => ?_⟩
  refine wpAny_Call_Name_kw (ld_blt I hg hm hv ?_ (by decide) (by decide))
  refine PyProof.Rows.callWith_kw (thn ((pa_cons ha pa_nil he).run pos pins s σ H (fun vs H1 => match vs with | [v] => rSrtL X.K iz P (X.env.qual ++ "<lambda>") Q v H1 | _ => False) I ?_) fun us s1 ⟨vs, H1, I1, r1, q1⟩ => ?_) he2 hpl rfl rfl
  · exact h
  · obtain ⟨v, rfl⟩ : ∃ v, vs = [v] := by
      match vs, q1 with
      | [v], _ => exact ⟨v, rfl⟩
    obtain ⟨a, xs, ds, T, ps, rfl, hs, hl, ea, hk, hP, ht, hc, q⟩ := q1
    show wpAny _ _ (evalAll ((do let v ← eval (.Lambda params (.Tuple es kt pt) scope pl) X.env; standAt pos; pure v) :: (backToKw pos (keywordEach [] X.env)).map (·.2))) _ _ s1
    refine wpAny_evalAll_cons (wpAny_bind (lam_make3 I1 TB hcode hP ht hc (L.df _) L.noFree fun f cn pm ctv H2 s2 I2 md hf hrec => wpAny_bind (wpAny_standAt (wpAny_pure (wpAny_evalAll_nil ?_)))))
    rw [Vals.ref1 r1]
    obtain ⟨its, rv, hlI, hz1⟩ := I2.list (md.sql hP hs)
    have el : EachIs (fun (u : Value) (d : D) => ∃ x, RelV x u ∧ (∃ (b : Addr) (ys : List V) (ns : List Int), x = V.ref b ∧ SqT X.K H1 b ys ∧ keyI iz d = some ns ∧ IntsV ys iz ns) ∧ T x d) its ds := each_raw (fun x d u t r => ⟨x, r, t⟩) rv ea
    refine sorted_key_data (b := false) (k := ikey iz) hlI.isList el (ikey_alike iz ds) (ikey_sortable hz hk) (Nat.le_trans hl szl_line) (fun d hd => ?_) (ksk_s1 _ _) (fun _ => ksk_l1 _ _) (fun _ => ksk_t1 _ _) ?_ ?_
    · have := ikey_depth iz d; omega
    · rintro u d ⟨x2, rx, ⟨b, ys, ns, rfl, hT, hkd, hiv⟩, _⟩ hd hp tk kp
      cases rx
      obtain ⟨its2, rv2, ht2, hz2⟩ := I2.tuple (md.sqt hP hT)
      obtain ⟨vs, hi, hvl⟩ := IntsV.raw rv2 hiv
      have ek : ikey iz d = .tuple (ns.map .int) := by unfold ikey; rw [hkd]; rfl
      rw [ek]
      refine lam_key (s := { s2 with heap := hp, toks := tk }) L ke dp ((I2.nolimit).keeps kp) (kp _ _ hf) (hrec.keeps kp) (ht2.keeps kp) ?_ hi (by rw [hvl]; exact Nat.le_trans hzl (by decide))
      rw [List.size_toArray, ← rv2.length]
      exact hz2
    · intro out c2 hp tk kp _ hat hlen eo
      obtain ⟨ys, ry, ey⟩ := each_abs (eo.mono fun u d ⟨x, h1, _, h3⟩ => ⟨x, h1, h3⟩)
      have yl : ys.length ≤ sizeLine := by rw [ry.length, hlen]; exact Nat.le_trans hl szl_line
      exact ⟨.ref _, upd H2 (s2.heap.objs.size + 1) (.lst ys), I2.laid (t' := tk) kp (Nat.le_succ _) ⟨yl, out, c2, ry, hat⟩, rfl, q H2 ys _ md ey (I2.hok.fresh (Nat.le_succ _))⟩
theorem each_keyI {K : Kx} {F H : Hp} {rho : List Addr} {iz : List Nat} (e : Same F H) : ∀ {ds : List D} {xs : List V}, Rps K F rho ds xs → (ds.all fun d => (keyI iz d).isSome) = true → EachIs (fun x d => (∃ (b : Addr) (ys : List V) (ns : List Int), x = V.ref b ∧ SqT K H b ys ∧ keyI iz d = some ns ∧ IntsV ys iz ns) ∧ Rp K F rho d x) xs ds
  | [], _, .nil, _ => .nil
  | d :: ds, _, .cons r rs, h => by
    rw [List.all_cons, Bool.and_eq_true] at h
    refine .cons ⟨?_, r⟩ (each_keyI e rs h.2)
    cases hk : keyI iz d with
    | none => rw [hk] at h; cases h.1
    | some ns =>
      cases r with
      | tup hF rr => exact ⟨_, _, ns, rfl, .inl (.inl (e _ _ hF)), rfl, IntsV.of rr hk⟩
      | _ => cases hk
theorem mf_sortedK {x : Str} {iz : List Nat} {params : Arguments} {scope : Scope} {es : List Expr} {kt : Nat} {pt pl pk p pos : Pos} {c P : Addr} {e : Expr} {m : M D} (L : Lam1 x params scope) (ke : KeyEs x es iz) (hz : iz ≠ []) (hzl : iz.length ≤ 100) (hr : ∃ k, Room k X.A) (TB : LamX.TabB X.base X.mg c P) (hcode : X.env.code = .ref c) (hP : (P, X.env.qual ++ "<lambda>") ∈ Tb.t)
    (hg : Gl X "sorted") (hm : X.mg "sorted" = none) (ha : PE X e (Te (kx X Tb) m)) (hv : bootBuiltins "sorted" = some (.builtin "sorted") := by decide +kernel)
    (he : starEach [e] X.env = (false, eval e X.env) :: starEach [] X.env := by rfl) (he2 : backTo pos (starEach [e] X.env) = (false, eval e X.env) :: backTo pos (starEach [] X.env) := by rfl) (hpl : (backTo pos (starEach [e] X.env)).any (·.1) = false := by rfl) :
    PE X (.Call (.Name "sorted" p) [e] [⟨some "key", .Lambda params (.Tuple es kt pt) scope pl, pk⟩] pos) (Tf (kx X Tb) (N.sortedK iz m)) := by
  obtain ⟨kk, hr⟩ := hr
  refine pe_imp (pe_srtL L ke hz hzl hr.depth hr.units TB hcode hg hm ha hv he he2 hpl) fun σ H Q ⟨B, F, rho, om, z, g⟩ => ?_
  refine (g.bnd.imp fun _ _ H1 _ _ v _ _ _ _ _ ⟨F2, rho2, z2, x, eg1, s1, p1, r1, g1⟩ => ?_).tx (R := rV (kx X Tb))
  obtain ⟨R, d, z4, e, k⟩ := g1
  dsimp only at e
  split at e
  · rename_i ds hc
    split at e
    · rename_i c2
      cases e
      obtain ⟨a, xs, rfl, q, h⟩ := cont_ok R r1 hc
      obtain ⟨ps, h1, h2, h3⟩ := R.rh.tb.tb _ hP
      refine ⟨a, xs, ds, fun v d => Rp (kx X Tb) F2 rho2 d v, ps, rfl, ?_, c2.1, each_keyI R.rh.fro q c2.2, c2.2, h1, h2, fun pos cv hcv => ?_, fun H2 ys l md ey hl => ?_⟩
      · rcases h with ⟨_, h⟩ | ⟨h, _⟩
        · exact h
        · cases h
      · obtain ⟨c0, e1, e2⟩ := h3 pos cv hcv
        exact ⟨c0, e1, R.rh.fro _ _ e2⟩
      · obtain ⟨F3, s3, R3⟩ := R.made hP md
        obtain ⟨R4, f4⟩ := R3.new (o := .lst ys) hl
        exact k F3 rho2 _ _ s3 (List.prefix_refl _) R4 ⟨l, ys, rfl, upd_same, f4, (each_rps ey).mono s3 (List.prefix_refl _)⟩
    · cases e
  · cases e
end
/-! ### a def given by facts of the head, its code object told -/
theorem fnD_ok {P : Program} {w : World} {K : Kx} {mg : Str → Option Value} {base : Heap} {x qual : Str} {params : Arguments} {body : List Stmt} {scope : Scope} {dvs : List V} {kws : List (Str × V)} {f : Addr} {fd : FuncData} {N ps : List Str} {k n kk : Nat} {b : C} (F : FunD K x qual params body scope dvs kws f fd) (S : FnScope N ps scope) (hn : N.length = n) (hk : ps.length = kk)
    (hb : ∀ (A : Around) (outer : List Env) (s : Shared) (H : Hp) (E : XK), Room k (A.deeper (envOfC qual scope s.heap.objs.size f fd.code)) → PSs (cxOf CX0 P w K mg base N qual scope f fd.code A outer s H E).nox body (Ts K b)) :
    FnOk P w K mg base CX0 (k + 1) f fd ps (spM kk K (fn n kk b)) := by
  subst hn hk
  obtain ⟨oc, od, dV, kV, doc, pm, an, cdv, ct, osl, rfl, lk, hcd, _, _⟩ := F.ex
  exact fn_of lk hcd S (fun vs H Q E h => h.1) fun A outer s H vs Q E hr h => ⟨_, (hb A outer s H E hr).nox, fn_body S h⟩
theorem codeD {K : PySem.W.Frag} {x qual : Str} {params : Arguments} {body : List Stmt} {scope : Scope} {dvs : List V} {kws : List (Str × V)} {fd : FuncData} {p : Str × Option Str} (F : FunD K x qual params body scope dvs kws (He.fAd K p) fd) : fd.code = .ref (He.cT K p).1 := by
  obtain ⟨oc, od, dV, kV, doc, pm, an, cdv, ct, osl, rfl, lk, hcd, _, _⟩ := F.ex
  obtain ⟨c, hc⟩ := He.codeIn_ref hcd
  show cdv = _
  rw [hc]
  exact congrArg Value.ref (He.codeOf_eq lk hc).symm
end Mi

set_option Elab.async false
set_option linter.all false
set_option maxRecDepth 100000
/-! Mi, part I: instances as values, methods. -/
namespace Mi
open PySem PySem.W PySem.Spec PyProof.Rows L2
/-! ### names of shared objects below a bound -/
/-- all names of shared objects in d are below m -/
def blw : Nat → Nat → D → Bool
  | _, _, .non => true
  | _, _, .bl _ => true
  | _, _, .int _ => true
  | _, _, .str _ => true
  | 0, _, _ => false
  | n + 1, m, .tup xs => xs.all (blw n m)
  | n + 1, m, .kt xs => xs.all (blw n m)
  | n + 1, m, .lst xs => xs.all (blw n m)
  | n + 1, m, .scr xs => xs.all (blw n m)
  | n + 1, m, .dk kvs => kvs.all fun kv => blw n m kv.2
  | n + 1, m, .dt kvs => kvs.all fun kv => blw n m kv.2
  | n + 1, m, .ins _ fs => fs.all fun kv => blw n m kv.2
  | _ + 1, m, .ref k => decide (k < m)
  | _ + 1, _, .own _ => false
section
variable {K : Kx} {F F' F2 F0 : Hp} {rho t : List Addr}
theorem Rps.conv {rho2 : List Addr} {f : D → D} : ∀ {ds : List D} {vs : List V}, (∀ d ∈ ds, ∀ v, Rp K F rho d v → Rp K F2 rho2 (f d) v) → Rps K F rho ds vs → Rps K F2 rho2 (ds.map f) vs
  | _, _, _, .nil => .nil
  | _, _, h, .cons r rs => .cons (h _ List.mem_cons_self _ r) (Rps.conv (fun d hd => h d (List.mem_cons_of_mem _ hd)) rs)
theorem Rps.conv1 {rho2 : List Addr} {ds : List D} {vs : List V} (h : ∀ d ∈ ds, ∀ v, Rp K F rho d v → Rp K F2 rho2 d v) (r : Rps K F rho ds vs) : Rps K F2 rho2 ds vs := by
  have := Rps.conv (f := id) h r
  rwa [List.map_id] at this
theorem pre_short {n : Nat} {a : Addr} (h : n < rho.length) (e : (rho ++ t)[n]? = some a) : rho[n]? = some a := by
  rw [← e, List.getElem?_append_left h]
theorem Rp.blw {m : Nat} (hm : rho.length = m) : ∀ (n : Nat) {d : D} {v : V}, Mi.blw n m d = true → Rp K F (rho ++ t) d v → Rp K F rho d v := by
  intro n
  induction n with
  | zero =>
    intro d v h r
    cases r <;> first | exact .non | exact .bl _ | exact .int _ | exact .str _ | (simp [Mi.blw] at h)
  | succ n ih =>
    intro d v h r
    have ls : ∀ {ds : List D} {vs : List V}, ds.all (Mi.blw n m) = true → Rps K F (rho ++ t) ds vs → Rps K F rho ds vs := fun {ds vs} hd rs => Rps.conv1 (fun d hd2 v r => ih (List.all_eq_true.mp hd d hd2) r) rs
    have al : ∀ {κ : Type} {kvs : List (κ × D)}, (kvs.all fun kv => Mi.blw n m kv.2) = true → (kvs.map Prod.snd).all (Mi.blw n m) = true := fun {κ kvs} h => by
      rw [List.all_map]
      exact h
    cases r with
    | non => exact .non
    | bl b => exact .bl b
    | int i => exact .int i
    | str x => exact .str x
    | tup e r => exact .tup e (ls (by simpa only [Mi.blw] using h) r)
    | kt e r => exact .kt e (ls (by simpa only [Mi.blw] using h) r)
    | lst e r => exact .lst e (ls (by simpa only [Mi.blw] using h) r)
    | scr e r => exact .scr e (ls (by simpa only [Mi.blw] using h) r)
    | ref e =>
      simp only [Mi.blw, decide_eq_true_eq] at h
      exact .ref (pre_short (by omega) e)
    | dk e k r => exact .dk e k (ls (al (by simpa only [Mi.blw] using h)) r)
    | dt e k r => exact .dt e k (ls (al (by simpa only [Mi.blw] using h)) r)
    | ins c e k r => exact .ins c e k (ls (al (by simpa only [Mi.blw] using h)) r)
end
/-! ### data without names of the heap -/
mutual
def calm : D → Bool
  | .tup xs => calms xs
  | .kt xs => calms xs
  | .lst xs => calms xs
  | .non => true
  | .bl _ => true
  | .int _ => true
  | .str _ => true
  | _ => false
def calms : List D → Bool
  | [] => true
  | x :: xs => calm x && calms xs
end
section
variable {K : Kx} {F F' F0 : Hp} {rho t : List Addr}
mutual
theorem Rp.calm : ∀ {d : D} {v : V}, Mi.calm d = true → Rp K F (rho ++ t) d v → Rp K F rho d v
  | _, _, _, .non => .non
  | _, _, _, .bl b => .bl b
  | _, _, _, .int i => .int i
  | _, _, _, .str x => .str x
  | _, _, h, .tup e r => .tup e (Rps.calm (by rw [Mi.calm] at h; exact h) r)
  | _, _, h, .kt e r => .kt e (Rps.calm (by rw [Mi.calm] at h; exact h) r)
  | _, _, h, .lst e r => .lst e (Rps.calm (by rw [Mi.calm] at h; exact h) r)
  | _, _, h, .scr e r => by rw [Mi.calm] at h <;> first | cases h | (intros; contradiction)
  | _, _, h, .ref e => by rw [Mi.calm] at h <;> first | cases h | (intros; contradiction)
  | _, _, h, .dk e k r => by rw [Mi.calm] at h <;> first | cases h | (intros; contradiction)
  | _, _, h, .dt e k r => by rw [Mi.calm] at h <;> first | cases h | (intros; contradiction)
  | _, _, h, .ins m e k r => by rw [Mi.calm] at h <;> first | cases h | (intros; contradiction)
theorem Rps.calm : ∀ {ds : List D} {vs : List V}, Mi.calms ds = true → Rps K F (rho ++ t) ds vs → Rps K F rho ds vs
  | _, _, _, .nil => .nil
  | _, _, h, .cons r rs => by
    rw [Mi.calms, Bool.and_eq_true] at h
    exact .cons (Rp.calm h.1 r) (Rps.calm h.2 rs)
end
/-- what was told over a shorter heap, is -/
theorem get_short {n : Nat} {a0 : Addr} {α : Prop} {a : Addr} (h0 : rho[n]? = some a0) (h : (rho ++ t)[n]? = some a) : rho[n]? = some a := by
  rw [← h, List.getElem?_append_left (List.getElem?_eq_some_iff.mp h0).1]
mutual
theorem Rp.short : ∀ {d : D} {v0 v : V}, Rp K F0 rho d v0 → Rp K F (rho ++ t) d v → Rp K F rho d v
  | _, _, _, .non, .non => .non
  | _, _, _, .bl _, .bl b => .bl b
  | _, _, _, .int _, .int i => .int i
  | _, _, _, .str _, .str x => .str x
  | _, _, _, .tup _ r0, .tup e r => .tup e (Rps.short r0 r)
  | _, _, _, .kt _ r0, .kt e r => .kt e (Rps.short r0 r)
  | _, _, _, .lst _ r0, .lst e r => .lst e (Rps.short r0 r)
  | _, _, _, .scr _ r0, .scr e r => .scr e (Rps.short r0 r)
  | _, _, _, .ref e0, .ref e => .ref (by rw [← e, List.getElem?_append_left (List.getElem?_eq_some_iff.mp e0).1])
  | _, _, _, .dk _ _ r0, .dk e k r => .dk e k (Rps.short r0 r)
  | _, _, _, .dt _ _ r0, .dt e k r => .dt e k (Rps.short r0 r)
  | _, _, _, .ins _ _ _ r0, .ins m e k r => .ins m e k (Rps.short r0 r)
theorem Rps.short : ∀ {ds : List D} {vs0 vs : List V}, Rps K F0 rho ds vs0 → Rps K F (rho ++ t) ds vs → Rps K F rho ds vs
  | _, _, _, .nil, .nil => .nil
  | _, _, _, .cons r0 rs0, .cons r rs => .cons (Rp.short r0 r) (Rps.short rs0 rs)
end
theorem Ob.short {H0 H : Hp} {a0 a : Addr} {d : D} (h0 : Ob K F0 rho H0 a0 d) (h : Ob K F (rho ++ t) H a d) : Ob K F rho H a d := by
  cases d <;> try exact h.elim
  · obtain ⟨xs, e, r⟩ := h
    obtain ⟨_, _, r0⟩ := h0
    exact ⟨xs, e, r0.short r⟩
  · obtain ⟨xs, e, k, r⟩ := h
    obtain ⟨_, _, _, r0⟩ := h0
    exact ⟨xs, e, k, r0.short r⟩
  · obtain ⟨xs, e, k, r⟩ := h
    obtain ⟨_, _, _, r0⟩ := h0
    exact ⟨xs, e, k, r0.short r⟩
  · obtain ⟨C, dx, es, m, e, k, r⟩ := h
    obtain ⟨_, _, _, _, _, _, r0⟩ := h0
    exact ⟨C, dx, es, m, e, k, r0.short r⟩
end
section
variable {K : Kx} {B : Bs} {F F' F0 : Hp} {rho : List Addr} {om : Nat → Option Addr} {z : Z} {s : List Sl} {h : List D} {σ σ0 : L2.St} {H H0 : Hp} {p : Addr} {d : D} {o : HO}
/-- the last object of the shared heap stays as it is for ever -/
theorem Rl.settle (R0 : Rl K B F0 rho om ⟨s, h⟩ σ0 H0) (R : Rl K B F (rho ++ [p]) om ⟨s, h ++ [d]⟩ σ H) (hp : H p = some o) : Same F (upd F p o) ∧ Rl K B (upd F p o) rho om ⟨s, h⟩ σ H := by
  have last : (rho ++ [p])[rho.length]? = some p := by rw [List.getElem?_append_right (Nat.le_refl _), Nat.sub_self]; rfl
  have up : ∀ {n : Nat} {a : Addr}, rho[n]? = some a → (rho ++ [p])[n]? = some a := fun {n a} e => by rw [List.getElem?_append_left (List.getElem?_eq_some_iff.mp e).1]; exact e
  have fp : F p = none := R.rh.nf _ _ last
  have sf : Same F (upd F p o) := fun b u e => by rw [upd_ne (ne_of_none e fp)]; exact e
  have ne : ∀ {n : Nat} {a : Addr}, rho[n]? = some a → a ≠ p := fun {n a} e c => by
    have h1 := R.rh.inj _ _ _ (up e) (show (rho ++ [p])[rho.length]? = some a by rw [c]; exact last)
    have h2 := (List.getElem?_eq_some_iff.mp e).1
    omega
  have no : ∀ {i : Nat} {a : Addr}, om i = some a → a ≠ p := fun {i a} e c => R.orr i rho.length a e (by rw [c]; exact last)
  have hlen : h.length = rho.length := R0.rh.len
  refine ⟨sf, ⟨⟨fun b u e => ?_, hlen, fun n d2 a h1 h2 => ?_, fun i j a h1 h2 => R.rh.inj i j a (up h1) (up h2), fun n a e => by rw [upd_ne (ne e)]; exact R.rh.nf n a (up e), R.rh.tb.mono sf (fun _ _ => rfl) (fun q hq => by rw [upd_ne fun c => R.rh.tr q hq rho.length (by rw [c]; exact last)]; exact R.rh.tb.nf q hq), fun q hq n e => R.rh.tr q hq n (up e)⟩, R.len, fun i x e => ?_, R.oj, fun i n a e e2 => R.orr i n a e (up e2), fun i a e => by rw [upd_ne (no e)]; exact R.off i a e, R.oth, R.frm, R.exf.trans sf, R0.exr, fun a u e1 nt e2 nm => ?_, fun n a e => R.nr n a (up e), R.no, fun i a e => ?_, R.to, R.mt⟩⟩
  · by_cases c : b = p
    · subst c
      rw [upd_same] at e
      rw [hp]
      exact e
    · rw [upd_ne c] at e
      exact R.rh.fro _ _ e
  · have hl : n < h.length := (List.getElem?_eq_some_iff.mp h1).1
    exact (Ob.short (t := [p]) (R0.rh.obs n d2 a h1 h2) (R.rh.obs n d2 a (by rw [List.getElem?_append_left hl]; exact h1) (up h2))).mono sf (List.prefix_refl _) rfl
  · have q0 := R0.sl i x e
    have q := R.sl i x e
    cases x with
    | no => trivial
    | val d2 =>
      obtain ⟨v0, _, r0⟩ := q0
      obtain ⟨v, e1, r⟩ := q
      exact ⟨v, e1, (r0.short r).mono sf (List.prefix_refl _)⟩
    | own d2 =>
      obtain ⟨a0, _, _, r0⟩ := q0
      obtain ⟨a, e1, e2, r⟩ := q
      exact ⟨a, e1, e2, (Ob.short r0 r).mono sf (List.prefix_refl _) rfl⟩
  · have c : a ≠ p := fun c => by
      subst c
      rcases R.nr _ _ last with h | h
      · exact nm h
      · rw [h] at e1
        cases e1
    rw [upd_ne c]
    exact R.nF a u e1 nt e2 nm
  · exact R.ow i a e
end
/-! ### an instance made, as a value -/
open Classical in
noncomputable def mkV (h : List D) : Option (D × List D) → Option D
  | some (.non, h') => match h'[h.length]? with
    | some (.ins nm fs) => if h' = h ++ [.ins nm fs] ∧ (fs.map Prod.snd).all (blw 12 h.length) = true then some (.ins nm fs) else none
    | _ => none
  | _ => none
noncomputable def E.mk (nm : Str) (mf : Fn) (g : List D → List D) (ms : List (M D)) : M D := bnd (E.args ms) fun xs z => match mkV z.h (mf (.ref z.h.length :: g xs) (z.h ++ [.ins nm []])) with
  | some d => some (d, z)
  | none => none
theorem mkV_ok {h : List D} {r : Option (D × List D)} {d : D} (e : mkV h r = some d) : ∃ nm fs, d = .ins nm fs ∧ r = some (.non, h ++ [.ins nm fs]) ∧ (fs.map Prod.snd).all (blw 12 h.length) = true := by
  unfold mkV at e
  split at e
  · rename_i h'
    split at e
    · rename_i nm fs hf
      split at e
      · rename_i c
        cases e
        exact ⟨nm, fs, rfl, by rw [c.1], c.2⟩
      · cases e
    · cases e
  · cases e
theorem mk_go {K : Kx} {nm : Str} {C : Addr} {n m : Nat} {mf : Fn} {g : List D → List D} {gV : List V → List V} {ms : List (M D)} {Ee : XK} {gW : List V → List V → List V} (hC : (nm, C) ∈ K.tb.c) (hm : ms.length = m) (al : Alike K m n g gV) (hW : ∀ a zs, zs.length = m → gW [a] zs = a :: gV zs) : ∀ σ H Q, Te K (E.mk nm mf g ms) σ H Q →
    tMakeK C 0 m (spM (n + 1) K mf) gW Ee tNil (Ta K (E.args ms)) σ H Q := by
  rintro σ H Q ⟨B, F, rho, om, z, gg⟩
  refine (gg.bnd.imp fun _ _ H1 _ _ zs _ _ _ _ _ ⟨F2, rho2, z2, xs, eg1, s1, p1, r1, g1⟩ => ?_).tx (R := rA K)
  obtain ⟨R, d, z4, e, k⟩ := g1
  have hx := args_len eg1
  refine ⟨rfl, by rw [← r1.length, hx, hm], fun x dx hnx hdx hne => ?_⟩
  rw [hW _ _ (by rw [← r1.length, hx, hm])]
  dsimp only at e
  split at e
  · rename_i d' hd
    cases e
    obtain ⟨nm2, fs, rfl, hr, hcm⟩ := mkV_ok hd
    have R1 := R.new (o := .own x) hdx
    have hx2 : (upd H1 dx (.own x)) x = none := by rw [upd_ne (show x ≠ dx from fun c => hne c.symm)]; exact hnx
    have R2 := R1.1.new (o := .ins C dx []) hx2
    have R3 := R2.1.share R2.2 (d := .ins nm []) ⟨C, dx, [], hC, upd_same, rfl, .nil⟩
    obtain ⟨a1, a2⟩ := al (by rw [hx, hm]) (r1.mono (Same.refl _) (List.prefix_append rho2 [x]))
    refine ⟨by rw [List.length_cons, a2], F2, rho2 ++ [x], z2.h ++ [.ins nm []], .ref z2.h.length :: g xs, R3.1.rh, .cons (.ref R3.2) a1, .non, _, hr, fun F' rho' H' v e1 e2 r fr nf nr q => ?_⟩
    have hv : v = .non := by cases q; rfl
    refine ⟨hv, ?_⟩
    have R4 := R3.1.called e1 e2 r fr nf nr
    have er : rho' = rho2 ++ [x] := by
      obtain ⟨tl, ht⟩ := e2
      have hl := r.len
      rw [← ht, List.length_append, List.length_append, List.length_append, ← R.rh.len] at hl
      cases tl with
      | nil => rw [← ht, List.append_nil]
      | cons b tl => simp at hl
    subst er
    have last : (rho2 ++ [x])[rho2.length]? = some x := by rw [List.getElem?_append_right (Nat.le_refl _), Nat.sub_self]; rfl
    obtain ⟨C2, dx2, es, hC2, hH, hk, hvs⟩ := r.obs rho2.length (.ins nm2 fs) x (by rw [← R.rh.len, List.getElem?_append_right (Nat.le_refl _), Nat.sub_self]; rfl) last
    obtain ⟨sf, R5⟩ := Rl.settle (s := z2.s) (h := z2.h) R R4 hH
    exact k (upd F' x _) rho2 H' (.ref x) (e1.trans sf) (List.prefix_refl _) R5 (.pure (.ins hC2 upd_same hk ((Rps.conv1 (fun d hd v r => r.blw R.rh.len.symm 12 (List.all_eq_true.mp hcm d hd)) hvs).mono sf (List.prefix_refl _))))
  · cases e
theorem me_mk {X : Cx} {Tb : Tbs} {k n m : Nat} {f C : Addr} {fd : FuncData} {ps ks : List Str} {x : Str} {p pos : Pos} {kws : List Keyword} {gL : List Value → List Value → List Value} {gW : List V → List V → List V} {mf : Fn} {g : List D → List D} {gV : List V → List V} {ms : List (M D)} (hC : (x, C) ∈ Tb.c) (Mm : Mk X.K C f)
    (G : FnOk X.prog X.w X.K X.mg X.base CX0 k f fd ps (spM (n + 1) (kx X Tb) mf)) (hr : Room (k + 1) X.A) (hg : Gl X x) (hm : X.mg x = some (.ref C)) (hb : KBn X.K fd ps 1 ks gL gW) (hW : ∀ a zs, zs.length = m → gW [a] zs = a :: gV zs) (al : Alike (kx X Tb) m n g gV) (hms : ms.length = m) (hkl : ks.length = m) (hkw : PK X kws (Ta (kx X Tb) (E.args ms)))
    (hall : (backToKw pos (keywordEach kws X.env)).all (·.1.isSome) = true := by rfl) (hks : (backToKw pos (keywordEach kws X.env)).filterMap (·.1) = ks := by rfl) (hdb : (x == ("__debug__" : Str)) = false := by decide)
    (hpl : ((backTo pos (starEach [] X.env)).any (·.1) || (backToKw pos (keywordEach kws X.env)).any (·.1.isNone)) = false := by rfl) : PE X (.Call (.Name x p) [] kws pos) (Te (kx X Tb) (E.mk x mf g ms)) := by
  subst hkl
  exact pe_imp (pe_makeK0 (E := E0) Mm G hr hg hm hb pass0 hkw hall hks hdb hpl) fun σ H Q h => mk_go (Ee := E0) hC hms al hW σ H Q h
/-! ### methods -/
def insOf (x : D) (z : Z) : Option (Str × List (Str × D)) := match x with
  | .ref n => match z.h[n]? with
    | some (.ins nm fs) => some (nm, fs)
    | _ => none
  | .ins nm fs => some (nm, fs)
  | _ => none
def E.meth (nm m : Str) (mf : Fn) (o : M D) (as : List (M D)) : M D := bnd o fun x z => match insOf x z with
  | some (nm2, fs) => if nm2 = nm ∧ (fs.lookup m).isNone = true then bnd (E.args as) (fun xs z => match mf (x :: xs) z.h with
      | none => none
      | some (d, h') => some (d, ⟨z.s, h'⟩)) z else none
  | none => none
theorem lookup_none {K : Kx} {F : Hp} {rho : List Addr} {f : Str} : ∀ {fs : List (Str × D)} {es : List (Str × V)}, es.map Prod.fst = fs.map Prod.fst → fs.lookup f = none → es.lookup f = none
  | [], es, hk, _ => by
    cases es with
    | nil => rfl
    | cons _ _ => cases hk
  | (k, x) :: fs, es, hk, h => by
    cases es with
    | nil => cases hk
    | cons e es =>
      obtain ⟨k2, v⟩ := e
      rw [List.map_cons, List.map_cons, List.cons.injEq] at hk
      obtain ⟨hk1, hk2⟩ := hk
      have hk1 : k2 = k := hk1
      subst hk1
      rw [List.lookup_cons] at h ⊢
      cases c : (f == k2) with
      | true => rw [c] at h; cases h
      | false => rw [c] at h; exact lookup_none (K := K) (F := F) (rho := rho) hk2 h
theorem insOf_ok {K : Kx} {B : Bs} {F : Hp} {rho : List Addr} {om : Nat → Option Addr} {z : Z} {σ : L2.St} {H : Hp} {x : D} {v : V} {nm : Str} {fs : List (Str × D)} {m : Str} (R : Rl K B F rho om z σ H) (r : Rv K F rho om x v) (e : insOf x z = some (nm, fs)) (hm : (fs.lookup m).isNone = true) :
    Rp K F rho x v ∧ ∃ a C dx es, v = .ref a ∧ (nm, C) ∈ K.tb.c ∧ H a = some (.ins C dx es) ∧ es.lookup m = none := by
  have hm2 : fs.lookup m = none := Option.isNone_iff_eq_none.mp hm
  unfold insOf at e
  split at e
  · rename_i n
    split at e
    · rename_i nm2 fs2 hz
      cases e
      cases r with
      | pure r =>
        have r0 := r
        cases r with
        | ref hr =>
          obtain ⟨C, dx, es, h1, h2, h3, h4⟩ := R.rh.obs _ _ _ hz hr
          exact ⟨r0, _, C, dx, es, rfl, h1, h2, lookup_none (K := K) (F := F) (rho := rho) h3 hm2⟩
    · cases e
  · rename_i nm2 fs2
    cases e
    cases r with
    | pure r =>
      have r0 := r
      cases r with
      | ins h1 h2 h3 h4 => exact ⟨r0, _, _, _, _, rfl, h1, R.rh.fro _ _ h2, lookup_none (K := K) (F := F) (rho := rho) h3 hm2⟩
  · cases e
theorem meth_go {K : Kx} {nm m : Str} {C : Addr} {n : Nat} {mf : Fn} {mo : M D} {ms : List (M D)} {Ee : XK} (hC : ∀ q ∈ K.tb.c, q.1 = nm → q.2 = C) (hn : ms.length = n) : ∀ σ H Q, Te K (E.meth nm m mf mo ms) σ H Q → tMeth C m (spM (n + 1) K mf) [] Ee (Te K mo) (Ta K (E.args ms)) σ H Q := by
  rintro σ H Q ⟨B, F, rho, om, z, g⟩
  refine (g.bnd.imp fun _ _ H1 _ _ v _ _ _ _ _ ⟨F2, rho2, z2, x, eg1, s1, p1, r1, g1⟩ => ?_).tx (R := rV K)
  obtain ⟨R, d, z4, e, k⟩ := g1
  dsimp only at e
  split at e
  · rename_i nm2 fs hi
    split at e
    · rename_i c
      obtain ⟨c1, c2⟩ := c
      subst c1
      obtain ⟨rx, a, C2, dx, es, rfl, h1, h2, h3⟩ := insOf_ok R r1 hi c2
      have h4 : C2 = C := hC _ h1 rfl
      subst h4
      refine ⟨a, dx, es, rfl, h2, h3, ?_⟩
      have g2 : Go K (rV K) B F2 rho2 om (bnd (E.args ms) (fun xs z => match mf (x :: xs) z.h with
        | none => none
        | some (d, h') => some (d, ⟨z.s, h'⟩))) z2 σ H1 Q := ⟨R, d, z4, e, k⟩
      refine (g2.bnd.imp fun _ _ H3 _ _ vs _ _ _ _ _ ⟨F4, rho4, z5, xs, eg2, s2, p2, r2, g3⟩ => ?_).tx (R := rA K)
      obtain ⟨R3, d3, z6, e3, k3⟩ := g3
      dsimp only at e3
      split at e3
      · cases e3
      · rename_i d' h' hd
        cases e3
        rw [List.append_nil]
        have hx := args_len eg2
        refine ⟨by rw [List.length_cons, ← r2.length, hx, hn], F4, rho4, z5.h, x :: xs, R3.rh, .cons (rx.mono s2 p2) r2, _, _, hd, fun F' rho' H' v e1 e2 r fr nf nr q => ?_⟩
        exact k3 F' rho' H' v e1 e2 (R3.called e1 e2 r fr nf nr) (.pure q)
    · cases e
  · cases e
theorem me_meth {X : Cx} {Tb : Tbs} {k n : Nat} {f C : Addr} {fd : FuncData} {ps : List Str} {nm m : Str} {apos pos : Pos} {o e : Expr} {es : List Expr} {mf : Fn} {mo : M D} {ms : List (M D)} {pl : Sem Bool} (hC : ∀ q ∈ Tb.c, q.1 = nm → q.2 = C) (c : Cls X.K C) (hm : Meth X.K C m f)
    (G : FnOk X.prog X.w X.K X.mg X.base CX0 k f fd ps (spM (n + 1) (kx X Tb) mf)) (hr : Room k X.A) (hb : Binds X.K fd ps []) (ho : PE X o (Te (kx X Tb) mo)) (ha : PA X (e :: es) (Ta (kx X Tb) (E.args ms))) (hn : ms.length = n := by rfl)
    (hst : starEach (e :: es) X.env = (false, eval e X.env) :: starEach es X.env := by rfl) (hpl : (backTo pos (starEach es X.env)).any (·.1) = false := by rfl)
    (ht : eval (.Call (.Attribute o m apos) (e :: es) [] pos) X.env = (do
      let ov ← eval o X.env
      standAt apos.atName
      let (f, first) ← holding [ov] (getMethod ov m pl)
      callWith pos f first (backTo pos (starEach (e :: es) X.env)) (backToKw pos (keywordEach [] X.env))) := by rfl) :
    PE X (.Call (.Attribute o m apos) (e :: es) [] pos) (Te (kx X Tb) (E.meth nm m mf mo ms)) :=
  pe_imp (pe_meth (E := E0) ho c hm G hr hb .nil pass0 ha hst hpl ht) (meth_go hC hn)
/-- o.f of an instance of the class nm -/
def O.fldC (nm f : Str) (x : D) (z : Z) : Option D := match insOf x z with
  | some (nm2, fs) => if nm2 = nm then fs.lookup f else none
  | none => none
@[reducible] def E.fldC (nm f : Str) (m : M D) : M D := E.un (O.fldC nm f) m
def C.fsetC (nm f : Str) (o v : M D) : C := bnd v fun d => bnd o fun x z => if isPure d = true then match x with
    | .ref n => match z.h[n]? with
      | some (.ins nm2 fs) => if nm2 = nm ∧ fs.length < 1000 then some (.nx, ⟨z.s, z.h.set n (.ins nm2 (putFD f d fs))⟩) else none
      | _ => none
    | _ => none
  else none
theorem me_fldC {X : Cx} {Tb : Tbs} {nm f : Str} {C : Addr} {e : Expr} {m : M D} {pos : Pos} (hC : ∀ q ∈ Tb.c, q.1 = nm → q.2 = C) (hc : Cls X.K C) (hn : NoAttr X.K C f) (he : PE X e (Te (kx X Tb) m)) (hb : attributeBase e f X.env (eval e X.env) = eval e X.env := by rfl) : PE X (.Attribute e f pos) (Te (kx X Tb) (E.fldC nm f m)) := by
  refine pe_imp (pe_fld he hb) (un_go (r := fun x H Q => ∃ a C dx fs v, x = V.ref a ∧ H a = some (.ins C dx fs) ∧ Cls X.K C ∧ NoAttr X.K C f ∧ fs.lookup f = some v ∧ Q v H) ?_)
  intro B F rho om z σ H x xv d R rx e Q k
  unfold O.fldC at e
  split at e
  · rename_i nm2 fs hi
    split at e
    · rename_i c
      subst c
      unfold insOf at hi
      split at hi
      · rename_i n
        split at hi
        · rename_i nm3 fs3 hz
          cases hi
          cases rx with
          | pure rx =>
            cases rx with
            | ref hr =>
              obtain ⟨C2, dx, es, hm, hH, hk, hv⟩ := R.rh.obs _ _ _ hz hr
              obtain ⟨v, h1, h2⟩ := rps_lookup hk hv e
              have h4 : C2 = C := hC _ hm rfl
              subst h4
              exact ⟨_, C2, dx, es, v, rfl, hH, hc, hn, h1, k F H v (Same.refl F) R (.pure h2)⟩
        · cases hi
      · rename_i nm3 fs3
        cases hi
        cases rx with
        | pure rx =>
          cases rx with
          | ins hm hF hk hv =>
            obtain ⟨v, h1, h2⟩ := rps_lookup hk hv e
            have h4 := hC _ hm rfl
            subst h4
            exact ⟨_, _, _, _, v, rfl, R.rh.fro _ _ hF, hc, hn, h1, k F H v (Same.refl F) R (.pure h2)⟩
      · cases hi
    · cases e
  · cases e
theorem ms_fsetC {X : Cx} {Tb : Tbs} {nm f : Str} {Ca : Addr} {o e : Expr} {mo mv : M D} {pos pos' : Pos} (hC : ∀ q ∈ Tb.c, q.1 = nm → q.2 = Ca) (hc : Cls X.K Ca) (hn : NoAttr X.K Ca f) (ho : PE X o (Te (kx X Tb) mo)) (hv : PE X e (Te (kx X Tb) mv)) (hs : swapsWith e (some (.Attribute o f pos')) pos.line X.env = pure false := by rfl) : PS X (.Assign [.Attribute o f pos'] e pos) (Ts (kx X Tb) (C.fsetC nm f mo mv)) := by
  refine ps_imp (ps_fld ho hv hs) fun D σ H ⟨B, F, rho, om, z, R, fl, z', e, k⟩ => ?_
  obtain ⟨d, z1, e1, e2⟩ := bnd_some e
  refine ⟨B, F, rho, om, z, R, d, z1, e1, fun F1 rho1 H1 v s1 p1 R1 r1 => ?_⟩
  obtain ⟨x, z2, e3, e4⟩ := bnd_some e2
  refine ⟨B, F1, rho1, om, z1, R1, x, z2, e3, fun F2 rho2 H2 w s2 p2 R2 r2 => ?_⟩
  split at e4
  · rename_i hp
    split at e4
    · rename_i n
      split at e4
      · rename_i nm2 fs hz
        split at e4
        · rename_i hl
          obtain ⟨hnm, hl⟩ := hl
          subst hnm
          cases e4
          cases r2 with
          | pure r2 =>
            cases r2 with
            | ref hr =>
              obtain ⟨C2, dx, es, hm, hH, hk, hvs⟩ := R2.rh.obs _ _ _ hz hr
              have h4 : C2 = Ca := hC _ hm rfl
              subst h4
              have rp := (r1.of_pure hp).mono s2 p2
              have q := rps_putF (f := f) rp hk hvs
              have hle : es.length < 1000 := by
                have := congrArg List.length hk
                rw [List.length_map, List.length_map] at this
                omega
              have R3 := R2.mutRef hr (o := .ins C2 dx (putF f v es)) (d := .ins nm2 (putFD f d fs)) ⟨C2, dx, _, hm, upd_same, q.1, q.2⟩
              exact ⟨_, C2, dx, es, rfl, hH, hc, hn, hle, k F2 rho2 _ _ _ (s1.trans s2) (p1.trans p2) R3⟩
        · cases e4
      · cases e4
    · cases e4
  · cases e4
theorem Tx.mono {K : Kx} {α β : Type} {R : RelT α β} {m : M α} {σ : L2.St} {H : Hp} {Q Q' : β → Hp → Prop} (h : Tx K R m σ H Q) (i : ∀ y H, Q y H → Q' y H) : Tx K R m σ H Q' := by
  obtain ⟨B, F, rho, om, z, g⟩ := h
  exact ⟨B, F, rho, om, z, g.imp fun _ _ H x _ y _ _ _ _ _ q => i y H q⟩
theorem ta_nil {K : Kx} {σ : L2.St} {H : Hp} {Q : List V → Hp → Prop} (h : Ta K (E.args []) σ H Q) : Q [] H := by
  obtain ⟨B, F, rho, om, z, g⟩ := h
  exact g.ret [] .nil
theorem me_meth0 {X : Cx} {Tb : Tbs} {k : Nat} {f C : Addr} {fd : FuncData} {ps : List Str} {nm m : Str} {apos pos : Pos} {o : Expr} {mf : Fn} {mo : M D} {pl : Sem Bool} (hC : ∀ q ∈ Tb.c, q.1 = nm → q.2 = C) (c : Cls X.K C) (hm : Meth X.K C m f)
    (G : FnOk X.prog X.w X.K X.mg X.base CX0 k f fd ps (spM 1 (kx X Tb) mf)) (hr : Room k X.A) (hb : Binds X.K fd ps []) (ho : PE X o (Te (kx X Tb) mo))
    (ht : eval (.Call (.Attribute o m apos) [] [] pos) X.env = (do
      let ov ← eval o X.env
      standAt apos.atName
      let (f, first) ← holding [ov] (getMethod ov m pl)
      callWith pos f first (backTo pos (starEach [] X.env)) (backToKw pos (keywordEach [] X.env))) := by rfl) :
    PE X (.Call (.Attribute o m apos) [] [] pos) (Te (kx X Tb) (E.meth nm m mf mo [])) := by
  refine pe_imp (pe_meth0 (E := E0) ho c hm G hr hb .nil pass0 ht) fun σ H Q h => ?_
  exact (meth_go (Ee := E0) (n := 0) hC rfl σ H Q h).mono fun v H1 ⟨a, dx, fs, h1, h2, h3, h4⟩ => ⟨a, dx, fs, h1, h2, h3, ta_nil h4⟩
/-- a call without arguments -/
theorem me_call0 {X : Cx} {Tb : Tbs} {k : Nat} {f : Addr} {fd : FuncData} {ps : List Str} {mf : Fn} {x : Str} {p pos : Pos} (G : FnOk X.prog X.w X.K X.mg X.base CX0 k f fd ps (spM 0 (kx X Tb) mf)) (hr : Room k X.A) (hg : Gl X x) (hm : X.mg x = some (.ref f))
    (hk : PySem.W.keepIn X.K (.ref f) = true) (hb : Binds X.K fd ps []) (hdb : (x == ("__debug__" : Str)) = false := by decide) : PE X (.Call (.Name x p) [] [] pos) (Te (kx X Tb) (E.call mf [])) :=
  pe_imp (pe_call0 (E := E0) G hr hg hm hk hb .nil pass0 hdb) fun σ H Q h => ta_nil (call_go (XE := E0) (n := 0) (es := []) rfl σ H Q h)
/-! ### the end of a row, by facts of the head -/
theorem walkX {l : PySem.W.OpenLaw} {k : Nat} {q : Program} {loose : List Str} {XP : (Str → Option Value) → Heap → Prop} {YP : World → Heap → Prop} {d : DefRec} {x : Str} {mf : Fn} (most : l.most = some 63) (nodef : d.params.defaults = []) (room : Room k callerA)
    (F : ∀ (w : World) (mg : Str → Option Value) (fa : Addr) (hp : Heap), YP w hp → hp.Ns mainGlobals mg → mg d.name = some (.ref fa) →
      ∃ (K : PySem.W.Frag) (fd : FuncData) (cs : List Cs) (cl : List (Str × Addr)), K.In hp ∧ CsOk K hp cs ∧ (∀ (sh : Shared) (u : Value), BindsTo sh fd ⟨[u], []⟩ [(x, u)]) ∧ ∀ base : Heap, K.In base → base.Ns mainGlobals mg → (∀ z ∈ cs, LamX.TabB base mg z.c z.p) → GOk l.prog w K mg base k fa fd [x] (spM 1 ⟨K, ⟨tbs cs, cl⟩⟩ mf))
    (law : ∀ ns : List Int, ns.length ≤ 63 → ∃ h', mf [.scr (ns.map D.int)] [] = some (.bl true, h')) : PySem.W.WalkO q loose XP YP l.row.toRowW d [] (fun f vs => PySem.call f vs) := by
  apply Att.attach_call most nodef
  intro w s0 s1 mg mb fa o pm cd doc a us ns G Y ho hd hcd hmg scr iar short gens
  obtain ⟨K, fd, cs, cl, kin, ck, hb, hF⟩ := F w mg fa _ Y G.T.g hmg
  refine row_call kin G.T.g G.T.b G.T.builtins G.T.nolimit gens ck G.T.bmain scr iar (Nat.le_trans short (by decide)) room hF hb fun Hh hT sq => ?_
  obtain ⟨h2, e⟩ := law ns short
  have rh : Rh ⟨K, ⟨tbs cs, cl⟩⟩ (fun b => if ∃ z ∈ cs, z.p = b then none else Hh b) [] [] Hh := by
    classical
    refine ⟨fun b o e => ?_, rfl, (fun _ _ _ h => by simp at h), (fun _ _ _ h => by simp at h), (fun _ _ h => by simp at h), ⟨fun p hp => ?_, fun p hp y hy c => ?_, fun p hp => ?_⟩, fun _ _ _ h => by simp at h⟩
    · split at e
      · cases e
      · exact e
    · obtain ⟨z, hz, rfl⟩ := List.mem_map.mp hp
      refine ⟨#[], hT z hz, True.intro, fun pos cv hc => ?_⟩
      have hc : codeAmong pos [] = some cv := hc
      simp [codeAmong] at hc
    · obtain ⟨z, hz, rfl⟩ := List.mem_map.mp hp
      obtain ⟨z2, hz2, rfl⟩ := List.mem_map.mp hy
      exact ck.one z hz z2 hz2 c
    · obtain ⟨z, hz, rfl⟩ := List.mem_map.mp hp
      exact if_pos ⟨z, hz, rfl⟩
  have sq2 : SqL K (fun b => if ∃ z ∈ cs, z.p = b then none else Hh b) a (ns.map V.int) := by
    have na : ¬ ∃ z ∈ cs, z.p = a := by
      rintro ⟨z, hz, rfl⟩
      have := ck.tab z hz
      rw [scr] at this
      cases this
    rcases sq with (sq | ⟨o, sq⟩) | sq
    · exact .inl (.inl ((if_neg na).trans sq))
    · exact .inl (.inr ⟨o, (if_neg na).trans sq⟩)
    · exact .inr sq
  exact ⟨rfl, _, [], [], [.scr (ns.map D.int)], rh, .one (.scr sq2 (.ints ns)), _, h2, e, fun _ _ _ v _ _ _ _ _ _ r => by cases r; rfl⟩
/-- the tables of the defs that hold a lambda -/
def csD (K : PySem.W.Frag) (tf : List (He.Defn × Str)) : List Cs := tf.map fun p => ⟨(He.cT K p.1).1, (He.cT K p.1).2, p.2⟩
theorem csD_ok {fa : List He.Fa} {fn : List He.DefD} {ts : List He.Tab} {tf : List (He.Defn × Str)} {ex : PySem.W.Frag → Bool} {w : World} {hp : Heap} {K : PySem.W.Frag} (kin : K.In hp) (c : He.SaysX fa fn ts (tf.map Prod.fst) ex w hp K) (one : ∀ z ∈ csD K tf, ∀ y ∈ csD K tf, z.p = y.p → z.q = y.q) : CsOk K hp (csD K tf) := by
  refine ⟨fun z hz => ?_, fun z hz => ?_, fun z hz => ?_, one⟩
  all_goals
    obtain ⟨p, hp2, rfl⟩ := List.mem_map.mp hz
    have hm : p.1 ∈ tf.map Prod.fst := List.mem_map_of_mem hp2
  · exact c.empty _ hm
  · exact c.out _ hm
  · exact codeHd_of_K kin (c.hd _ hm)
/-! ### a <= b <= c <= d -/
def E.link1 (g : D → D → Z → Option D) (y : D) (c : M D) : M D := bnd c fun w z => match g y w z with
  | some (.bl q) => some (.bl q, z)
  | _ => none
def E.link2 (g k : D → D → Z → Option D) (y : D) (c d : M D) : M D := bnd c fun w z => match g y w z with
  | some (.bl true) => E.link1 k w d z
  | some (.bl false) => some (.bl false, z)
  | _ => none
def E.link3 (f g k : D → D → Z → Option D) (x : D) (b c d : M D) : M D := bnd b fun y z => match f x y z with
  | some (.bl true) => E.link2 g k y c d z
  | some (.bl false) => some (.bl false, z)
  | _ => none
def E.chain3 (f g k : D → D → Z → Option D) (a b c d : M D) : M D := bnd a fun x => E.link3 f g k x b c d
def tLk1 (r : R2) (tc : TE) (y : V) : TE := fun σ H Q => tc σ H fun w H1 => r y w H1 Q
def tLk2 (r r' : R2) (tc td : TE) (y : V) : TE := fun σ H Q => tc σ H fun w H1 => r y w H1 fun z H2 => ∃ k, z = .bl k ∧ (if k = true then tLk1 r' td w σ H2 Q else Q (.bl false) H2)
def tLk3 (q r r' : R2) (tb tc td : TE) (x : V) : TE := fun σ H Q => tb σ H fun y H1 => q x y H1 fun z H2 => ∃ k, z = .bl k ∧ (if k = true then tLk2 r r' tc td y σ H2 Q else Q (.bl false) H2)
theorem pe_chain3 {X : Cx} {op op' op2 : CmpOp} {q r r' : R2} {a b c d : Expr} {ta tb tc td : TE} {pos : Pos} (h1 : OpR X (compareOp op) q) (h2 : OpR X (compareOp op') r) (h3 : OpR X (compareOp op2) r') (ha : PE X a ta) (hb : PE X b tb) (hc : PE X c tc) (hd : PE X d td)
    (hm : lastMarks [op, op', op2] [b, c, d] = false := by with_unfolding_all rfl) : PE X (.Compare a [op, op', op2] [b, c, d] pos) (fun σ H Q => ta σ H fun x H1 => tLk3 q r r' tb tc td x σ H1 Q) := by
  refine ⟨fun pins s σ H Q I h => ?_⟩
  apply Compare_chain (hm := hm)
  refine thn (ha.run pins s σ H _ I h) fun v s1 ⟨x, H1, I1, r1, q1⟩ => ?_
  apply chain_link
  refine thn (hb.run pins s1 σ H1 _ I1 q1) fun u s2 ⟨y, H2, I2, r2, q2⟩ => thn (h1 pins s2 σ H2 x y v u _ I2 r1 r2 q2) fun dd s3 ⟨z, H3, I3, r3, k, e, q3⟩ => ?_
  subst e
  cases r3
  apply wpAny_truthy_bool
  cases k with
  | false => exact ite_ff ⟨.bl false, H3, I3, rfl, q3⟩
  | true =>
    apply ite_tt
    apply chain_link
    refine thn (hc.run pins s3 σ H3 _ I3 q3) fun w s4 ⟨y2, H4, I4, r4, q4⟩ => thn (h2 pins s4 σ H4 y y2 u w _ I4 r2 r4 q4) fun dd s5 ⟨z, H5, I5, r5, k, e, q5⟩ => ?_
    subst e
    cases r5
    apply wpAny_truthy_bool
    cases k with
    | false => exact ite_ff ⟨.bl false, H5, I5, rfl, q5⟩
    | true =>
      apply ite_tt
      apply chain_last
      exact thn (hd.run pins s5 σ H5 _ I5 q5) fun w2 s6 ⟨y3, H6, I6, r6, q6⟩ => h3 pins s6 σ H6 y2 y3 w w2 Q I6 r4 r6 q6
section
variable {K : Kx} {B : Bs} {F : Hp} {rho : List Addr} {om : Nat → Option Addr} {z : Z} {σ : L2.St} {H : Hp} {Q : VK} {x : D} {xv : V}
theorem link1_go {r : R2} {g : D → D → Z → Option D} (hv : OpV K r g) {mc : M D} (rx : Rv K F rho om x xv) (h : Go K (rV K) B F rho om (E.link1 g x mc) z σ H Q) : tLk1 r (Te K mc) xv σ H Q := by
  refine (h.bnd.imp fun _ _ H2 _ _ yv _ _ _ _ _ ⟨F3, rho3, z3, y3, eg2, s2, p2, r2, g2⟩ => ?_).tx (R := rV K)
  obtain ⟨R, d, z4, e, k⟩ := g2
  dsimp only at e
  split at e
  · rename_i c hd
    cases e
    refine hv R (rx.mono s2 p2) r2 hd _ fun F' H' v s R' q => ?_
    cases q with
    | pure q =>
      cases q
      exact k F' _ H' _ s (List.prefix_refl _) R' (.pure (.bl c))
  · cases e
theorem link2_go {r r' : R2} {g k' : D → D → Z → Option D} (hv : OpV K r g) (hv' : OpV K r' k') {mc md : M D} (rx : Rv K F rho om x xv) (h : Go K (rV K) B F rho om (E.link2 g k' x mc md) z σ H Q) : tLk2 r r' (Te K mc) (Te K md) xv σ H Q := by
  refine (h.bnd.imp fun _ _ H2 _ _ yv _ _ _ _ _ ⟨F3, rho3, z3, y3, eg2, s2, p2, r2, g2⟩ => ?_).tx (R := rV K)
  obtain ⟨R, d, z4, e, k⟩ := g2
  dsimp only at e
  split at e
  · rename_i hd
    refine hv R (rx.mono s2 p2) r2 hd _ fun F' H' v s R' q => ?_
    cases q with
    | pure q =>
      cases q
      refine ⟨true, rfl, ?_⟩
      rw [if_pos rfl]
      exact link1_go hv' (r2.mono s (List.prefix_refl _)) ⟨R', d, z4, e, fun F4 rho4 H4 v4 s4 p4 R4 q4 => k F4 rho4 H4 v4 (s.trans s4) p4 R4 q4⟩
  · rename_i hd
    cases e
    refine hv R (rx.mono s2 p2) r2 hd _ fun F' H' v s R' q => ?_
    cases q with
    | pure q =>
      cases q
      refine ⟨false, rfl, ?_⟩
      rw [if_neg (by decide)]
      exact k F' _ H' _ s (List.prefix_refl _) R' (.pure (.bl false))
  · cases e
theorem link3_go {q0 r r' : R2} {f g k' : D → D → Z → Option D} (hf : OpV K q0 f) (hv : OpV K r g) (hv' : OpV K r' k') {mb mc md : M D} (rx : Rv K F rho om x xv) (h : Go K (rV K) B F rho om (E.link3 f g k' x mb mc md) z σ H Q) : tLk3 q0 r r' (Te K mb) (Te K mc) (Te K md) xv σ H Q := by
  refine (h.bnd.imp fun _ _ H2 _ _ yv _ _ _ _ _ ⟨F3, rho3, z3, y3, eg2, s2, p2, r2, g2⟩ => ?_).tx (R := rV K)
  obtain ⟨R, d, z4, e, k⟩ := g2
  dsimp only at e
  split at e
  · rename_i hd
    refine hf R (rx.mono s2 p2) r2 hd _ fun F' H' v s R' q => ?_
    cases q with
    | pure q =>
      cases q
      refine ⟨true, rfl, ?_⟩
      rw [if_pos rfl]
      exact link2_go hv hv' (r2.mono s (List.prefix_refl _)) ⟨R', d, z4, e, fun F4 rho4 H4 v4 s4 p4 R4 q4 => k F4 rho4 H4 v4 (s.trans s4) p4 R4 q4⟩
  · rename_i hd
    cases e
    refine hf R (rx.mono s2 p2) r2 hd _ fun F' H' v s R' q => ?_
    cases q with
    | pure q =>
      cases q
      refine ⟨false, rfl, ?_⟩
      rw [if_neg (by decide)]
      exact k F' _ H' _ s (List.prefix_refl _) R' (.pure (.bl false))
  · cases e
end
theorem me_chain3 {X : Cx} {Tb : Tbs} {op op' op2 : CmpOp} {f g k : D → D → Z → Option D} {a b c d : Expr} {pos : Pos} {ma mb mc md : M D} (h1 : OpM X (compareOp op) f) (h2 : OpM X (compareOp op') g) (h3 : OpM X (compareOp op2) k) (ha : PE X a (Te (kx X Tb) ma)) (hb : PE X b (Te (kx X Tb) mb)) (hc : PE X c (Te (kx X Tb) mc)) (hd : PE X d (Te (kx X Tb) md))
    (hm : lastMarks [op, op', op2] [b, c, d] = false := by with_unfolding_all rfl) : PE X (.Compare a [op, op', op2] [b, c, d] pos) (Te (kx X Tb) (E.chain3 f g k ma mb mc md)) := by
  obtain ⟨r1, a1, b1⟩ := h1.rl
  obtain ⟨r2, a2, b2⟩ := h2.rl
  obtain ⟨r3, a3, b3⟩ := h3.rl
  refine pe_imp (pe_chain3 a1 a2 a3 ha hb hc hd hm) fun σ H Q ⟨B, F, rho, om, z, h⟩ => ?_
  exact (h.bnd.imp fun _ _ H1 _ _ xv _ _ _ _ _ ⟨F2, rho2, z2, x2, eg1, s1, p1, q1, g1⟩ => link3_go (b1 _) (b2 _) (b3 _) q1 g1).tx (R := rV (kx X Tb))
end Mi

set_option Elab.async false
set_option linter.all false
set_option maxRecDepth 100000
set_option synthInstance.maxSize 2000
set_option synthInstance.maxHeartbeats 400000
/-! Mi, part J: equality of typed data; what the printed texts lean on. -/
namespace Mi
open PySem L2
@[reducible] def eG (x : Str) (_ : Unit) : D := .str x
@[reducible] def sv : Option D → Sl
  | none => .no
  | some d => .val d
theorem sv_own (x : Option D) : N.isOwn (some (sv x)) = false := by cases x <;> rfl
def isVal : D → Bool
  | .own _ => false
  | .ref _ => false
  | .str _ => false
  | _ => true
theorem snap_val {d : D} (h : isVal d = true) (z : Z) : O.snap d z = d := by
  cases d <;> first | rfl | cases h
structure EqN {α : Type} [DecidableEq α] (n : Nat) (e : α → D) (f : α → PyData) : Prop where
  p : ∀ x, O.toP (e x) = some (f x)
  c : ∀ x, (f x).canLay0 = true
  d : ∀ x, (f x).depth ≤ n
  q : ∀ x y, PyData.eqv (f x) (f y) = decide (x = y)
/-- equality of data, whatever it is -/
def Pl.eqD (x y : D) : Option Bool := O.eqP x y ⟨[], []⟩
theorem eqP_free {x y : D} (hx : isVal x = true) (z z' : Z) (hy : isVal y = true) : O.eqP x y z = O.eqP x y z' := by
  have e : ∀ z, O.eqP x y z = O.eqD x y z := fun z => by cases x <;> first | rfl | cases hx
  rw [e, e]
  unfold O.eqD
  rw [snap_val hx, snap_val hx, snap_val hy, snap_val hy]
section
variable {α β γ δ ε ζ η : Type} [DecidableEq α] [DecidableEq β] [DecidableEq γ] [DecidableEq δ] [DecidableEq ε] [DecidableEq ζ] [DecidableEq η]
  {n m : Nat} {ea : α → D} {fa : α → PyData} {eb : β → D} {fb : β → PyData} {ec : γ → D} {fc : γ → PyData} {ed : δ → D} {fd : δ → PyData} {ee : ε → D} {fe : ε → PyData} {ef : ζ → D} {ff : ζ → PyData} {eg : η → D} {fg : η → PyData}
theorem EqN.eqP {e : α → D} {f : α → PyData} (h : EqN n e f) (hn : n ≤ 64) (x y : α) (z : Z) (hx : isVal (e x) = true) (hy : isVal (e y) = true) : O.eqP (e x) (e y) z = some (decide (x = y)) := by
  have e0 : O.eqP (e x) (e y) z = O.eqD (e x) (e y) z := by
    revert hx
    generalize e x = X
    intro hx
    cases X <;> first | rfl | cases hx
  rw [e0]
  unfold O.eqD
  rw [snap_val hx, snap_val hy, h.p, h.p]
  dsimp only
  rw [if_pos ⟨by unfold SeqAt.shaped; rw [h.c, decide_eq_true (Nat.le_trans (h.d x) hn)]; rfl, by unfold SeqAt.shaped; rw [h.c, decide_eq_true (Nat.le_trans (h.d y) hn)]; rfl⟩, h.q]
theorem EqN.mono {e : α → D} {f : α → PyData} (h : EqN n e f) (hn : n ≤ m) : EqN m e f := ⟨h.p, h.c, fun x => Nat.le_trans (h.d x) hn, h.q⟩
theorem EqN.I : EqN 0 eI PyData.int := ⟨fun _ => rfl, fun _ => by simp [PyData.canLay0], fun _ => by simp [PyData.depth], fun x y => by simp [PyData.eqv, Bool.beq_eq_decide_eq]⟩
theorem EqN.B : EqN 0 eB PyData.bool := ⟨fun _ => rfl, fun _ => by simp [PyData.canLay0], fun _ => by simp [PyData.depth], fun x y => by simp [PyData.eqv, Bool.beq_eq_decide_eq]⟩
theorem EqN.N : EqN 0 eN (fun _ => PyData.none) := ⟨fun _ => rfl, fun _ => by simp [PyData.canLay0], fun _ => by simp [PyData.depth], fun x y => by simp [PyData.eqv]⟩
theorem EqN.G {x : Str} (h : (PyData.str x).canLay0 = true) : EqN 0 (eG x) (fun _ => PyData.str x) := ⟨fun _ => rfl, fun _ => h, fun _ => by simp [PyData.depth], fun x y => by simp [PyData.eqv]⟩
def pO (f : α → PyData) : Option α → PyData
  | none => .none
  | some x => f x
theorem eqv_non {p : PyData} (h : p ≠ .none) : PyData.eqv .none p = false ∧ PyData.eqv p .none = false := by
  cases p <;> first | exact absurd rfl h | exact ⟨by simp [PyData.eqv], by simp [PyData.eqv]⟩
theorem EqN.O (h : EqN n ea fa) (hn : ∀ x, isNon (ea x) = false) : EqN n (eO ea) (pO fa) := by
  have nn : ∀ x, fa x ≠ .none := fun x e => by
    have h1 := h.p x
    rw [e] at h1
    have h2 := hn x
    revert h1 h2
    generalize ea x = d
    intro h1 h2
    cases d <;> first | (cases h2; done) | (rw [O.toP] at h1; first | (cases h1; done) | (cases q : O.toPs _ with | none => rw [q] at h1; cases h1 | some _ => rw [q] at h1; cases h1)) | (simp [O.toP] at h1; done)
  refine ⟨fun x => ?_, fun x => ?_, fun x => ?_, fun x y => ?_⟩
  · cases x with
    | none => rfl
    | some x => exact h.p x
  · cases x with
    | none => simp [pO, PyData.canLay0]
    | some x => exact h.c x
  · cases x with
    | none => simp [pO, PyData.depth]
    | some x => exact h.d x
  · cases x with
    | none => cases y with
      | none => simp [pO, PyData.eqv]
      | some y => rw [show pO fa none = .none from rfl, show pO fa (some y) = fa y from rfl, (eqv_non (nn y)).1]; simp
    | some x => cases y with
      | none => rw [show pO fa none = .none from rfl, show pO fa (some x) = fa x from rfl, (eqv_non (nn x)).2]; simp
      | some y => rw [show pO fa (some x) = fa x from rfl, show pO fa (some y) = fa y from rfl, h.q]; simp
theorem all_map {xs : List α} (h : EqN n ea fa) : O.toPs (xs.map ea) = some (xs.map fa) ∧ PyData.canLayAll0 (xs.map fa) = true ∧ PyData.depthAll (xs.map fa) ≤ n := by
  induction xs with
  | nil => exact ⟨rfl, by simp [PyData.canLayAll0], by simp [PyData.depthAll]⟩
  | cons x xs ih =>
    refine ⟨?_, ?_, ?_⟩
    · rw [List.map_cons, List.map_cons, O.toPs, h.p, ih.1]
    · simp [PyData.canLayAll0, h.c x, ih.2.1]
    · have := h.d x
      simp [PyData.depthAll, ih.2.2]
      omega
theorem eqv_map (h : EqN n ea fa) : ∀ xs ys : List α, PyData.eqvAll (xs.map fa) (ys.map fa) = decide (xs = ys)
  | [], [] => by simp [PyData.eqvAll]
  | [], _ :: _ => by simp [PyData.eqvAll]
  | _ :: _, [] => by simp [PyData.eqvAll]
  | x :: xs, y :: ys => by
    rw [List.map_cons, List.map_cons, PyData.eqvAll, h.q, eqv_map h xs ys]
    simp
theorem EqN.L (h : EqN n ea fa) : EqN (n + 1) (eL ea) (fun xs => .list (xs.map fa)) := by
  refine ⟨fun xs => ?_, fun xs => ?_, fun xs => ?_, fun xs ys => ?_⟩
  · show O.toP (.lst (xs.map ea)) = _
    rw [O.toP, (all_map h).1]
    rfl
  · rw [PyData.canLay0]; exact (all_map h).2.1
  · have := (all_map (xs := xs) h).2.2
    rw [PyData.depth]
    omega
  · rw [PyData.eqv]; exact eqv_map h xs ys
theorem EqN.U (h : EqN n ea fa) : EqN (n + 1) (eU ea) (fun xs => .tuple (xs.map fa)) := by
  refine ⟨fun xs => ?_, fun xs => ?_, fun xs => ?_, fun xs ys => ?_⟩
  · show O.toP (.tup (xs.map ea)) = _
    rw [O.toP, (all_map h).1]
    rfl
  · rw [PyData.canLay0]; exact (all_map h).2.1
  · have := (all_map (xs := xs) h).2.2
    rw [PyData.depth]
    omega
  · rw [PyData.eqv]; exact eqv_map h xs ys
theorem EqN.t1 (a : EqN n ea fa) : EqN (n + 1) (e1 ea) (fun p => .tuple [fa p]) := by
  refine ⟨fun p => ?_, fun p => ?_, fun p => ?_, fun p q => ?_⟩
  · simp [e1, O.toP, O.toPs, a.p]
  · simp [PyData.canLay0, PyData.canLayAll0, a.c]
  · have := a.d p
    simp [PyData.depth, PyData.depthAll]; omega
  · simp [PyData.eqv, PyData.eqvAll, a.q]
theorem EqN.t2 (a : EqN n ea fa) (b : EqN n eb fb) : EqN (n + 1) (e2 ea eb) (fun p => .tuple [fa p.1, fb p.2]) := by
  refine ⟨fun p => ?_, fun p => ?_, fun p => ?_, fun p q => ?_⟩
  · simp [e2, O.toP, O.toPs, a.p, b.p]
  · simp [PyData.canLay0, PyData.canLayAll0, a.c, b.c]
  · have := a.d p.1
    have := b.d p.2
    simp [PyData.depth, PyData.depthAll]; omega
  · simp [PyData.eqv, PyData.eqvAll, a.q, b.q, Prod.ext_iff]
theorem EqN.t3 (a : EqN n ea fa) (b : EqN n eb fb) (c : EqN n ec fc) : EqN (n + 1) (e3 ea eb ec) (fun p => .tuple [fa p.1, fb p.2.1, fc p.2.2]) := by
  refine ⟨fun p => ?_, fun p => ?_, fun p => ?_, fun p q => ?_⟩
  · simp [e3, O.toP, O.toPs, a.p, b.p, c.p]
  · simp [PyData.canLay0, PyData.canLayAll0, a.c, b.c, c.c]
  · have := a.d p.1
    have := b.d p.2.1
    have := c.d p.2.2
    simp [PyData.depth, PyData.depthAll]; omega
  · simp [PyData.eqv, PyData.eqvAll, a.q, b.q, c.q, Prod.ext_iff]
theorem EqN.t4 (a : EqN n ea fa) (b : EqN n eb fb) (c : EqN n ec fc) (d : EqN n ed fd) : EqN (n + 1) (e4 ea eb ec ed) (fun p => .tuple [fa p.1, fb p.2.1, fc p.2.2.1, fd p.2.2.2]) := by
  refine ⟨fun p => ?_, fun p => ?_, fun p => ?_, fun p q => ?_⟩
  · simp [e4, O.toP, O.toPs, a.p, b.p, c.p, d.p]
  · simp [PyData.canLay0, PyData.canLayAll0, a.c, b.c, c.c, d.c]
  · have := a.d p.1
    have := b.d p.2.1
    have := c.d p.2.2.1
    have := d.d p.2.2.2
    simp [PyData.depth, PyData.depthAll]; omega
  · simp [PyData.eqv, PyData.eqvAll, a.q, b.q, c.q, d.q, Prod.ext_iff]
theorem EqN.t6 (a : EqN n ea fa) (b : EqN n eb fb) (c : EqN n ec fc) (d : EqN n ed fd) (e : EqN n ee fe) (f : EqN n ef ff) : EqN (n + 1) (e6 ea eb ec ed ee ef) (fun p => .tuple [fa p.1, fb p.2.1, fc p.2.2.1, fd p.2.2.2.1, fe p.2.2.2.2.1, ff p.2.2.2.2.2]) := by
  refine ⟨fun p => ?_, fun p => ?_, fun p => ?_, fun p q => ?_⟩
  · simp [e6, O.toP, O.toPs, a.p, b.p, c.p, d.p, e.p, f.p]
  · simp [PyData.canLay0, PyData.canLayAll0, a.c, b.c, c.c, d.c, e.c, f.c]
  · have := a.d p.1
    have := b.d p.2.1
    have := c.d p.2.2.1
    have := d.d p.2.2.2.1
    have := e.d p.2.2.2.2.1
    have := f.d p.2.2.2.2.2
    simp [PyData.depth, PyData.depthAll]; omega
  · simp [PyData.eqv, PyData.eqvAll, a.q, b.q, c.q, d.q, e.q, f.q, Prod.ext_iff]
theorem EqN.t7 (a : EqN n ea fa) (b : EqN n eb fb) (c : EqN n ec fc) (d : EqN n ed fd) (e : EqN n ee fe) (f : EqN n ef ff) (g : EqN n eg fg) : EqN (n + 1) (e7 ea eb ec ed ee ef eg) (fun p => .tuple [fa p.1, fb p.2.1, fc p.2.2.1, fd p.2.2.2.1, fe p.2.2.2.2.1, ff p.2.2.2.2.2.1, fg p.2.2.2.2.2.2]) := by
  refine ⟨fun p => ?_, fun p => ?_, fun p => ?_, fun p q => ?_⟩
  · simp [e7, O.toP, O.toPs, a.p, b.p, c.p, d.p, e.p, f.p, g.p]
  · simp [PyData.canLay0, PyData.canLayAll0, a.c, b.c, c.c, d.c, e.c, f.c, g.c]
  · have := a.d p.1
    have := b.d p.2.1
    have := c.d p.2.2.1
    have := d.d p.2.2.2.1
    have := e.d p.2.2.2.2.1
    have := f.d p.2.2.2.2.2.1
    have := g.d p.2.2.2.2.2.2
    simp [PyData.depth, PyData.depthAll]; omega
  · simp [PyData.eqv, PyData.eqvAll, a.q, b.q, c.q, d.q, e.q, f.q, g.q, Prod.ext_iff]
theorem isValO {e : α → D} (h : ∀ x, isVal (e x) = true) (o : Option α) : isVal (eO e o) = true := by
  cases o with
  | none => rfl
  | some x => exact h x
end
/-! ### behind a part that may end all -/
def Pl.out {σ ρ β : Type} (k : σ → β) (r : ρ → β) : σ ⊕ ρ → β
  | .inl s => k s
  | .inr x => r x
theorem Rf.thnX {α β ρ : Type} {a rest : C} {z : Z} {Φ : α → Fl → Z → Prop} {o : Option (β ⊕ ρ)} {K : β → Option α} {E : ρ → Option α} (J : β → Z → Prop) (RT : ρ → Fl → Z → Prop) (h1 : Rf o a z fun v f z' => match v with | .inl v => f = .nx ∧ J v z' | .inr r => (∃ d, f = .rt d) ∧ RT r f z') (k : ∀ v z', J v z' → Rf (K v) rest z' Φ)
    (q : ∀ r r' f z', E r = some r' → (∃ d, f = .rt d) ∧ RT r f z' → Φ r' f z') : Rf (o.bind (Pl.out K E)) (C.seq a rest) z Φ :=
  Rf.thnO J RT h1 k q
theorem dataLe_ikey {α : Type} (iz : List Nat) (e : α → D) (k : α → List Int) (hk : ∀ x, keyI iz (e x) = some (k x)) (a b : α) : PySem.W.dataLe false (ikey iz) (e a) (e b) = decide (k a ≤ k b) := by
  rw [PySem.W.dataLe_eq]
  show (!PySem.W.dataLt (ikey iz (e b)) (ikey iz (e a))) = _
  unfold ikey
  rw [hk, hk, Option.getD_some, Option.getD_some, PySem.W.dataLt_tuple]
  have h := PySem.W.dataLt_ints (k b) (k a)
  unfold PySem.W.rowLt at h
  rw [h]
  rw [Bool.eq_iff_iff]
  simp [List.not_lt]
theorem ev_sortedKP {α : Type} {e : α → D} {iz : List Nat} {m : M D} {x : D} {z z1 : Z} {xs ys : List α} (k : α → List Int) (h1 : m z = some (x, z1)) (h2 : cont x z1 = some (false, xs.map e)) (hk : ∀ x, keyI iz (e x) = some (k x)) (hy : (if xs.length ≤ szl then some (xs.mergeSort fun a b => decide (k a ≤ k b)) else none) = some ys) : N.sortedK iz m z = some (ys.map e, z1) := by
  split at hy
  · rename_i hl
    cases hy
    unfold N.sortedK
    rw [bnd_of h1]
    simp only [h2]
    rw [if_pos ⟨by rw [List.length_map]; exact hl, by rw [List.all_eq_true]; intro d hd; obtain ⟨y, _, rfl⟩ := List.mem_map.mp hd; rw [hk y]; rfl⟩]
    unfold srt
    rw [← PySem.W.sort_maps (r := fun a b => decide (k a ≤ k b)) e fun a _ b _ => (dataLe_ikey iz e k hk a b).symm]
  · cases hy
section
variable {α β γ : Type} {x y d : D} {a b m : M D} {z z1 z2 : Z} {s s' s1 s2 : List Sl} {h h1 : List D} {i j k : Int} {p q : Bool}
theorem ev_nm {e : α → D} {v w : α} (h1 : m z = some (e v, z1)) (hx : some v = some w) : m z = some (e w, z1) := by cases hx; exact h1
theorem ss2 {i j : Nat} {u v : Sl} (h1 : s.set i u = s1) (h2 : s1.set j v = s2) : (s.set i u).set j v = s2 := by subst h1; exact h2
theorem ss3 {i j k : Nat} {u v w : Sl} {s3 : List Sl} (h1 : s.set i u = s1) (h2 : s1.set j v = s2) (h3 : s2.set k w = s3) : ((s.set i u).set j v).set k w = s3 := by subst h1 h2; exact h3
theorem ev_catP {e : α → D} {xs ys r : List α} (h1 : a z = some (x, z1)) (h2 : b z1 = some (y, z2)) (h3 : cont x z2 = some (false, xs.map e)) (h4 : cont y z2 = some (false, ys.map e)) (hx : noScr x = true) (hy : noScr y = true) (hr : Pl.cat xs ys = some r) : N.cat a b z = some (r.map e, z2) := by
  unfold Pl.cat at hr
  split at hr
  · rename_i hl
    cases hr
    rw [ev_cat h1 h2 h3 h4 hx hy (by rw [List.length_map, List.length_map]; exact hl), List.map_append]
  · cases hr
theorem ev_chainO {f g : D → D → Z → Option D} {c : M D} {o : Option Bool} {r : Bool} (h1 : a z = some (x, z1)) (h2 : b z1 = some (y, z1)) (h3 : f x y z1 = some (.bl p)) (h4 : ∀ q, o = some q → ∃ w, c z1 = some (w, z1) ∧ g y w z1 = some (.bl q)) (e : Pl.andO p o = some r) : E.chain f g a b c z = some (.bl r, z1) := by
  unfold Pl.andO at e
  cases p with
  | true =>
    obtain ⟨w, e1, e2⟩ := h4 r e
    rw [ev_chain h1 h2 h3 (fun _ => e1) fun _ => e2]
    rfl
  | false =>
    cases e
    rw [ev_chain (w := .non) (q := true) h1 h2 h3 (fun h => nomatch h) fun h => nomatch h]
    rfl
def Pl.pop (xs : List α) : Option (α × List α) := match xs.getLast? with
  | some x => some (x, xs.dropLast)
  | none => none
theorem Rf.pop {rest : C} {Φ : γ → Fl → Z → Prop} {i j : Nat} {xs : List β} {K : β × List β → Option γ} (e : β → D) (hi : s[i]? = some (.own (.lst (xs.map e)))) (hp : ∀ x, isPure (e x) = true) {t : β × List β → List Sl} (hs : ∀ p, (s.set i (.own (.lst (List.map e p.2)))).set j (.val (e p.1)) = t p) (k : ∀ p, Rf (K p) rest ⟨t p, h⟩ Φ) :
    Rf ((Pl.pop xs).bind K) (C.seq (C.set j (E.chg U.pop (E.var i) [])) rest) ⟨s, h⟩ Φ := Rf.bd fun p hy => by
  unfold Pl.pop at hy
  split at hy
  · rename_i x hx
    cases hy
    refine (k (x, xs.dropLast)).nx (cs_setN (ev_chgN (ev_varO hi) hi ev_args0 hi (?_ : U.pop _ _ = some (e x, (xs.dropLast).map e)) rfl) (hp x) (hs (x, xs.dropLast)))
    unfold U.pop
    dsimp only
    have : (xs.map e)[(xs.map e).length - 1]? = some (e x) := by
      rw [List.length_map, List.getElem?_map, ← List.getLast?_eq_getElem?, hx]
      rfl
    rw [this, List.map_dropLast]
  · cases hy
end
theorem Dr.q_draw {s : DS} {many : Int} (tl : List D) {r : Int × DS} (hr : Pl.draw s many = some r) : Dr.m_law_draw [.ref 1, .int many] (stT s tl) = some (.int r.1, stT r.2 tl) := by
  unfold Pl.draw at hr
  split at hr
  · rename_i c
    cases hr
    exact Dr.draw_evT tl s c.1 (Smn.of (by omega)) (by decide)
  · cases hr
theorem St.q_take {s : Mi.TS} {many : Int} (tl : List D) {r : Int × Mi.TS} (hr : Pl.take s many = some r) : St.m_law_take [.ref 0, .int many] (tkT s tl) = some (.int r.1, tkT r.2 tl) := by
  unfold Pl.take at hr
  split at hr
  · rename_i c
    cases hr
    exact St.take_evT tl s c
  · cases hr
/-! ### instances -/
section
variable {α β γ : Type} {x y d : D} {a b m : M D} {z z1 z2 : Z} {s s' s1 s2 : List Sl} {h h1 : List D} {Φ : α → Fl → Z → Prop} {rest : C}
theorem ev_fldC {nm f : Str} (h1 : m z = some (x, z1)) (h2 : ∀ z, O.fldC nm f x z = some d) : E.un (O.fldC nm f) m z = some (d, z1) := ev_un h1 (h2 z1)
theorem ev_mkP {nm : Str} {mf : Fn} {g : List D → List D} {ms : List (M D)} {xs : List D} {fs : List (Str × D)} (h1 : E.args ms z = some (xs, ⟨s, h⟩)) (h2 : mf (.ref h.length :: g xs) (h ++ [.ins nm []]) = some (.non, h ++ [.ins nm fs])) (hc : (fs.map Prod.snd).all (blw 12 h.length) = true) : E.mk nm mf g ms z = some (.ins nm fs, ⟨s, h⟩) := by
  unfold E.mk
  rw [bnd_of h1]
  dsimp only
  rw [h2]
  have e : mkV h (some (.non, h ++ [.ins nm fs])) = some (.ins nm fs) := by
    unfold mkV
    simp only [List.getElem?_append_right (Nat.le_refl _), Nat.sub_self, List.getElem?_cons_zero]
    rw [if_pos ⟨trivial, hc⟩]
  rw [e]
theorem ev_methP {nm f : Str} {mf : Fn} {o : M D} {ms : List (M D)} {xs : List D} {fs : List (Str × D)} {h' : List D} (h1 : o z = some (x, z1)) (h2 : ∀ z, insOf x z = some (nm, fs)) (h3 : (fs.lookup f).isNone = true) (h4 : E.args ms z1 = some (xs, ⟨s, h⟩)) (h5 : mf (x :: xs) h = some (d, h')) : E.meth nm f mf o ms z = some (d, ⟨s, h'⟩) := by
  unfold E.meth
  rw [bnd_of h1]
  simp only [h2]
  rw [if_pos ⟨trivial, h3⟩, bnd_of h4]
  simp only [h5]
theorem putFD_new {f : Str} {d : D} : ∀ {fs : List (Str × D)}, (fs.map Prod.fst).contains f = false → putFD f d fs = fs ++ [(f, d)]
  | [], _ => rfl
  | (k, x) :: fs, h => by
    rw [List.map_cons, List.contains_cons, Bool.or_eq_false_iff] at h
    have hk : ¬ k = f := fun e => by rw [e] at h; simp at h
    unfold putFD
    rw [if_neg hk, putFD_new h.2]
    rfl
theorem lookup_at {f : Str} {d : D} : ∀ {fs : List (Str × D)} {i : Nat}, fs[i]? = some (f, d) → ((fs.map Prod.fst).take i).contains f = false → fs.lookup f = some d
  | [], i, h, _ => by simp at h
  | (k, x) :: fs, 0, h, _ => by
    have h : (k, x) = (f, d) := Option.some.inj h
    cases h
    rw [List.lookup_cons, beq_self_eq_true]
  | (k, x) :: fs, i + 1, h, g => by
    rw [List.map_cons, List.take_succ_cons, List.contains_cons, Bool.or_eq_false_iff] at g
    rw [List.lookup_cons, g.1]
    exact lookup_at (i := i) h g.2
theorem lookup_atK {f : Str} {d : D} {fs : List (Str × D)} {ks : List Str} {i : Nat} (hk : fs.map Prod.fst = ks) (h : fs[i]? = some (f, d)) (g : (ks.take i).contains f = false) : fs.lookup f = some d := by
  subst hk
  exact lookup_at h g
theorem fld_at {nm f : Str} {fs : List (Str × D)} {ks : List Str} {i : Nat} (z : Z) (hk : fs.map Prod.fst = ks) (h : fs[i]? = some (f, d)) (g : (ks.take i).contains f = false) : O.fldC nm f (.ins nm fs) z = some d := by
  subst hk
  unfold O.fldC insOf
  show (if nm = nm then fs.lookup f else none) = _
  rw [if_pos rfl, lookup_at h g]
theorem lookup_not {f : Str} : ∀ {fs : List (Str × D)}, (fs.map Prod.fst).contains f = false → (fs.lookup f).isNone = true
  | [], _ => rfl
  | (k, x) :: fs, h => by
    rw [List.map_cons, List.contains_cons, Bool.or_eq_false_iff] at h
    rw [List.lookup_cons, h.1]
    exact lookup_not h.2
/-- self.f = e, in __init__ -/
theorem Rf.fset {i : Nat} {nm f : Str} {fs : List (Str × D)} {ks : List Str} {t : β} {K : β → Option α} (e : β → D) (he : m ⟨s, h ++ [.ins nm fs]⟩ = some (e t, ⟨s, h ++ [.ins nm fs]⟩)) (hp : ∀ x, isPure (e x) = true) (hi : s[i]? = some (.val (.ref h.length))) (hk : fs.map Prod.fst = ks) (hn : ks.contains f = false) (hl : ks.length < 1000) {fs' : β → List (Str × D)} (hf : ∀ x, fs ++ [(f, e x)] = fs' x) (k : ∀ x, Rf (K x) rest ⟨s, h ++ [.ins nm (fs' x)]⟩ Φ) :
    Rf ((some t).bind K) (C.seq (C.fsetC nm f (E.var i) m) rest) ⟨s, h ++ [.ins nm fs]⟩ Φ := by
  subst hk
  refine (k t).nx ?_
  unfold C.fsetC
  rw [bnd_of he, bnd_of (ev_var hi)]
  dsimp only
  rw [if_pos (hp t), List.getElem?_append_right (Nat.le_refl _), Nat.sub_self]
  dsimp only [List.getElem?_cons_zero]
  rw [if_pos ⟨rfl, by rw [List.length_map] at hl; exact hl⟩, putFD_new hn, hf, List.set_append_right _ _ (Nat.le_refl _), Nat.sub_self]
  rfl
theorem ev_fldN {i : Nat} {nm f : Str} {fs : List (Str × D)} (hi : s[i]? = some (.val (.ref h.length))) (hf : fs.lookup f = some d) : E.un (O.fldC nm f) (E.var i) ⟨s, h ++ [.ins nm fs]⟩ = some (d, ⟨s, h ++ [.ins nm fs]⟩) := by
  refine ev_un (ev_var hi) ?_
  unfold O.fldC insOf
  dsimp only
  rw [List.getElem?_append_right (Nat.le_refl _), Nat.sub_self]
  show (if nm = nm then fs.lookup f else none) = _
  rw [if_pos rfl, hf]
end
theorem Rf.none {α : Type} {c : C} {z : Z} {Φ : α → Fl → Z → Prop} : Rf Option.none c z Φ := fun r e => by cases e
/-! ### tags; data of several kinds -/
@[reducible] def eE (tags : List Str) (i : Fin tags.length) : D := .str tags[i]
theorem EqN.E {tags : List Str} (h : (tags.all fun x => (PyData.str x).canLay0) = true) (hn : tags.Nodup) : EqN 0 (eE tags) (fun i => PyData.str tags[i]) :=
  ⟨fun _ => rfl, fun i => List.all_eq_true.mp h _ (List.getElem_mem i.isLt), fun _ => by simp [PyData.depth], fun i j => by
    simp only [PyData.eqv]
    rw [Bool.eq_iff_iff, beq_iff_eq, decide_eq_true_eq]
    constructor
    · intro e
      have hw := List.pairwise_iff_getElem.mp hn
      rcases Nat.lt_trichotomy i.val j.val with c | c | c
      · exact absurd e (hw _ _ i.isLt j.isLt c)
      · exact Fin.ext c
      · exact absurd e.symm (hw _ _ j.isLt i.isLt c)
    · rintro rfl
      rfl⟩
def Pl.asI : D → Option Int
  | .int i => some i
  | _ => none
def Pl.asB : D → Option Bool
  | .bl i => some i
  | _ => none
section
variable {α β γ : Type} {x y d : D} {a b m : M D} {z z1 z2 : Z} {s s' s1 s2 : List Sl} {h h1 : List D}
theorem ev_asI {i : Int} (h1 : m z = some (x, z1)) (h2 : Pl.asI x = some i) : m z = some (.int i, z1) := by
  cases x <;> first | (cases h2; exact h1) | cases h2
theorem ev_asB {i : Bool} (h1 : m z = some (x, z1)) (h2 : Pl.asB x = some i) : m z = some (.bl i, z1) := by
  cases x <;> first | (cases h2; exact h1) | cases h2
def Pl.setAt (xs : List α) (i : Int) (x : α) : Option (List α) := (ixN xs.length i).map fun k => xs.set k x
/-- xs[i] = e of a list that a slot owns -/
theorem Rf.setIx {δ : Type} {Φ : δ → Fl → Z → Prop} {rest : C} {i : Nat} {mi me : M D} {xs : List β} {j : Int} {t : β} {K : List β → Option δ} (e : β → D) (he : me z = some (e t, z1)) (hi : s[i]? = some (.own (.lst (xs.map e)))) (hm : z1 = ⟨s, h⟩) (hj : mi ⟨s, h⟩ = some (.int j, ⟨s, h1⟩)) (hp : isPure (e t) = true) {s' : List β → List Sl} (hs : ∀ ys : List β, s.set i (.own (.lst (ys.map e))) = s' ys) (k : ∀ ys, Rf (K ys) rest ⟨s' ys, h1⟩ Φ) :
    Rf ((Pl.setAt xs j t).bind K) (C.seq (C.setIx (E.var i) mi me) rest) z Φ := Rf.bd fun ys hy => by
  subst hm
  unfold Pl.setAt at hy
  cases hn : ixN xs.length j with
  | none => rw [hn] at hy; cases hy
  | some n =>
    rw [hn] at hy
    cases hy
    refine (k (xs.set n t)).nx ?_
    rw [← hs]
    refine cs_setIxO he (ev_varO hi) hj hp hi ?_
    unfold U.setAt
    rw [List.length_map, hn]
    show some ((xs.map e).set n (e t)) = _
    rw [List.map_set]
end
section
variable {x y w v d : D} {a b c m : M D} {z z1 z2 z3 : Z} {p q r : Bool}
theorem ev_chain3 {f g k : D → D → Z → Option D} {dd : M D} (h1 : a z = some (x, z1)) (h2 : b z1 = some (y, z1)) (h3 : f x y z1 = some (.bl p)) (h4 : c z1 = some (w, z1)) (h5 : g y w z1 = some (.bl q)) (h6 : dd z1 = some (v, z1)) (h7 : k w v z1 = some (.bl r)) : E.chain3 f g k a b c dd z = some (.bl (p && (q && r)), z1) := by
  unfold E.chain3
  rw [bnd_of h1]
  unfold E.link3
  rw [bnd_of h2]
  simp only [h3]
  cases p with
  | false => rfl
  | true =>
    show E.link2 g k y c dd z1 = _
    unfold E.link2
    rw [bnd_of h4]
    simp only [h5]
    cases q with
    | false => rfl
    | true =>
      show E.link1 k w dd z1 = _
      unfold E.link1
      rw [bnd_of h6]
      simp only [h7]
      rfl
end
theorem me_globI {X : Cx} {Tb : Tbs} {x : Str} {i : Int} {t : Tok} {pos : Pos} (hg : Gl X x) (hm : X.mg x = some (.int i t)) (hd : (x == ("__debug__" : Str)) = false := by decide) : PE X (.Name x pos) (Te (kx X Tb) (E.c (.int i))) :=
  me_glob (v := .int i) hg hm ⟨_, rfl⟩ (fun _ _ => .int _) hd
end Mi

set_option Elab.async false
set_option linter.all false
set_option maxRecDepth 100000
/-! Mi, part O: reasoning over the plain terms. -/
namespace Mi
open PySem L2
/-- o is told, and Φ holds of it -/
def Tot {α : Type} (o : Option α) (Φ : α → Prop) : Prop := ∃ r, o = some r ∧ Φ r
section
variable {α β γ σ ρ : Type} {o : Option α} {Φ Ψ : α → Prop}
theorem Tot.some {r : α} (h : Φ r) : Tot (some r) Φ := ⟨r, rfl, h⟩
theorem Tot.imp (h : Tot o Ψ) (i : ∀ r, Ψ r → Φ r) : Tot o Φ := by
  obtain ⟨r, e, q⟩ := h
  exact ⟨r, e, i r q⟩
theorem Tot.bind {o : Option β} {K : β → Option α} {Ψ : β → Prop} (h : Tot o Ψ) (k : ∀ r, Ψ r → Tot (K r) Φ) : Tot (o.bind K) Φ := by
  obtain ⟨r, e, q⟩ := h
  obtain ⟨r2, e2, q2⟩ := k r q
  exact ⟨r2, by rw [e]; exact e2, q2⟩
theorem Tot.of {o : Option β} {K : β → Option α} {r : β} (h : o = Option.some r) (k : Tot (K r) Φ) : Tot (o.bind K) Φ := by subst h; exact k
theorem Tot.nm {K : β → Option α} {r : β} (k : Tot (K r) Φ) : Tot ((Option.some r).bind K) Φ := k
theorem Tot.ite {p : Bool} {a b : Option α} (h1 : p = true → Tot a Φ) (h2 : p = false → Tot b Φ) : Tot (if p = true then a else b) Φ := by
  cases p with
  | true => exact h1 rfl
  | false => exact h2 rfl
theorem Tot.iteT {p : Bool} {a b : Option α} (hp : p = true) (h1 : Tot a Φ) : Tot (if p = true then a else b) Φ := by subst hp; exact h1
theorem Tot.iteF {p : Bool} {a b : Option α} (hp : p = false) (h1 : Tot b Φ) : Tot (if p = true then a else b) Φ := by subst hp; exact h1
theorem Tot.eq {r : α} (h : o = Option.some r) (q : Φ r) : Tot o Φ := ⟨r, h, q⟩
theorem Tot.get {r : α} (h : Tot o fun x => x = r) : o = Option.some r := by
  obtain ⟨x, e, rfl⟩ := h
  exact e
theorem Tot.draw {s : DS} {many : Int} {K : Int × DS → Option α} (h : 0 < many) (h2 : many ≤ 1000000000000) (k : ∀ (v : Int) (s2 : DS), 0 ≤ v → v < many → Tot (K (v, s2)) Φ) : Tot ((Pl.draw s many).bind K) Φ := by
  refine Tot.of (r := (drawV s many, drawS s many)) ?_ (k _ _ (drawV_nn s h) (drawV_lt s h))
  unfold Pl.draw
  rw [if_pos ⟨h, h2⟩]
theorem Tot.take {s : TS} {many : Int} {K : Int × TS → Option α} (h : 0 < many) (k : ∀ (v : Int) (s2 : TS), 0 ≤ v → v < many → Tot (K (v, s2)) Φ) : Tot ((Pl.take s many).bind K) Φ := by
  refine Tot.of (r := (takeV s many, takeS s)) ?_ (k _ _ (takeV_nn s h) (takeV_lt s h))
  unfold Pl.take
  rw [if_pos h]
/-- for, by what holds of what is left -/
theorem Tot.loopN {f : β → σ → Option σ} {Q : σ → Prop} (I : List β → σ → Prop) (step : ∀ x xs s, I (x :: xs) s → Tot (f x s) fun s2 => I xs s2) (fin : ∀ s, I [] s → Q s) : ∀ (xs : List β) (s : σ), I xs s → Tot (Pl.forN f xs s) Q
  | [], s, h => ⟨s, rfl, fin s h⟩
  | x :: xs, s, h => by
    obtain ⟨s2, e, q⟩ := step x xs s h
    obtain ⟨s3, e3, q3⟩ := Tot.loopN I step fin xs s2 q
    exact ⟨s3, by rw [Pl.forN, e]; exact e3, q3⟩
theorem Tot.forN {f : β → σ → Option σ} {xs : List β} {s : σ} {K : σ → Option α} (I : List β → σ → Prop) (h0 : I xs s) (step : ∀ x xs s, I (x :: xs) s → Tot (f x s) fun s2 => I xs s2) (k : ∀ s, I [] s → Tot (K s) Φ) : Tot ((Pl.forN f xs s).bind K) Φ :=
  Tot.bind (Tot.loopN (Q := fun s => I [] s) I step (fun _ h => h) xs s h0) k
/-- .. over the turns of a range -/
theorem rng_cons {a b : Int} (h : a < b) : Pl.rng a b = a :: Pl.rng (a + 1) b := by
  unfold Pl.rng
  obtain ⟨n, hn⟩ : ∃ n : Nat, b - a = n + 1 := ⟨(b - a - 1).toNat, by omega⟩
  have e1 : (b - a).toNat = n + 1 := by omega
  have e2 : (b - (a + 1)).toNat = n := by omega
  rw [e1, e2, List.range_succ_eq_map, List.map_cons, List.map_map]
  rw [List.cons.injEq]
  refine ⟨by simp, ?_⟩
  apply List.map_congr_left
  intro i _
  simp only [Function.comp]
  push_cast
  omega
theorem rng_nil {a b : Int} (h : b ≤ a) : Pl.rng a b = [] := by
  unfold Pl.rng
  have e : (b - a).toNat = 0 := by omega
  rw [e]
  rfl
theorem rng_mem {a b n : Int} : n ∈ Pl.rng a b ↔ a ≤ n ∧ n < b := by
  unfold Pl.rng
  simp only [List.mem_map, List.mem_range]
  constructor
  · rintro ⟨i, hi, rfl⟩
    omega
  · rintro ⟨h1, h2⟩
    exact ⟨(n - a).toNat, by omega, by omega⟩
theorem rng_len {a b : Int} : (Pl.rng a b).length = (b - a).toNat := by unfold Pl.rng; simp
theorem rng_lt {a b : Int} : (Pl.rng a b).Pairwise (· < ·) := by
  unfold Pl.rng
  rw [List.pairwise_map]
  exact (List.pairwise_lt_range (n := (b - a).toNat)).imp fun h => by omega
theorem Tot.rngO {a b : Int} {K : List Int → Option α} (h : (-(2 ^ 62) ≤ a ∧ a < 2 ^ 62) ∧ -(2 ^ 62) ≤ b ∧ b < 2 ^ 62) (k : Tot (K (Pl.rng a b)) Φ) : Tot ((Pl.rngO a b).bind K) Φ := by
  refine Tot.of (r := Pl.rng a b) ?_ k
  unfold Pl.rngO
  rw [if_pos h]
theorem Tot.loopR {f : Int → σ → Option σ} {Q : σ → Prop} (I : Int → σ → Prop) (b : Int) (step : ∀ i s, i < b → I i s → Tot (f i s) fun s2 => I (i + 1) s2) (fin : ∀ s, I b s → Q s) : ∀ (n : Nat) (a : Int) (s : σ), b - a = n → I a s → Tot (Pl.forN f (Pl.rng a b) s) Q
  | 0, a, s, hn, h => by
    have : a = b := by omega
    subst this
    rw [rng_nil (Int.le_refl _)]
    exact ⟨s, rfl, fin s h⟩
  | n + 1, a, s, hn, h => by
    have hab : a < b := by omega
    rw [rng_cons hab]
    obtain ⟨s2, e, q⟩ := step a s hab h
    obtain ⟨s3, e3, q3⟩ := Tot.loopR I b step fin n (a + 1) s2 (by omega) q
    exact ⟨s3, by rw [Pl.forN, e]; exact e3, q3⟩
theorem Tot.forR {f : Int → σ → Option σ} {a b : Int} {s : σ} {K : σ → Option α} (I : Int → σ → Prop) (hab : a ≤ b) (h0 : I a s) (step : ∀ i s, a ≤ i → i < b → I i s → Tot (f i s) fun s2 => I (i + 1) s2) (k : ∀ s, I b s → Tot (K s) Φ) : Tot ((Pl.forN f (Pl.rng a b) s).bind K) Φ :=
  Tot.bind (Tot.loopR (Q := fun s => I b s) (fun i s => a ≤ i ∧ I i s) b (fun i s hi h => (step i s h.1 hi h.2).imp fun s2 q => ⟨by omega, q⟩) (fun _ h => h.2) (b - a).toNat a s (by omega) ⟨Int.le_refl _, h0⟩) k
/-- for with exits: an invariant over what is left; what holds when it is left -/
theorem Tot.loopO {f : β → σ → Option (Pl.Out σ ρ)} {Q : σ ⊕ ρ → Prop} (I : List β → σ → Prop) (step : ∀ x xs s, I (x :: xs) s → Tot (f x s) fun o => match o with | .go s2 => I xs s2 | .brk s2 => Q (.inl s2) | .ret r => Q (.inr r)) (fin : ∀ s, I [] s → Q (.inl s)) : ∀ (xs : List β) (s : σ), I xs s → Tot (Pl.forO f xs s) Q
  | [], s, h => ⟨.inl s, rfl, fin s h⟩
  | x :: xs, s, h => by
    obtain ⟨o, e, q⟩ := step x xs s h
    cases o with
    | go s2 =>
      obtain ⟨s3, e3, q3⟩ := Tot.loopO I step fin xs s2 q
      exact ⟨s3, by rw [Pl.forO, e]; exact e3, q3⟩
    | brk s2 => exact ⟨.inl s2, by rw [Pl.forO, e], q⟩
    | ret r => exact ⟨.inr r, by rw [Pl.forO, e], q⟩
theorem Tot.forO {f : β → σ → Option (Pl.Out σ ρ)} {xs : List β} {s : σ} {K : σ → Option α} {E : ρ → Option α} (I : List β → σ → Prop) (QB : σ → Prop) (QR : ρ → Prop) (h0 : I xs s) (step : ∀ x xs s, I (x :: xs) s → Tot (f x s) fun o => match o with | .go s2 => I xs s2 | .brk s2 => QB s2 | .ret r => QR r)
    (k : ∀ s, I [] s ∨ QB s → Tot (K s) Φ) (kr : ∀ r, QR r → Tot (E r) Φ) : Tot ((Pl.forO f xs s).bind (Pl.out K E)) Φ := by
  refine Tot.bind (Tot.loopO (Q := fun o => match o with | .inl s => I [] s ∨ QB s | .inr r => QR r) I (fun x xs s h => (step x xs s h).imp fun o q => ?_) (fun s h => .inl h) xs s h0) fun o q => ?_
  · cases o with
    | go s2 => exact q
    | brk s2 => exact .inr q
    | ret r => exact q
  · cases o with
    | inl s => exact k s q
    | inr r => exact kr r q
/-- .. whose body never leaves -/
theorem Tot.forG {f : β → σ → Option (Pl.Out σ ρ)} {xs : List β} {s : σ} {K : σ → Option α} {E : ρ → Option α} (I : List β → σ → Prop) (h0 : I xs s) (step : ∀ x xs s, I (x :: xs) s → Tot (f x s) fun o => ∃ s2, o = .go s2 ∧ I xs s2) (k : ∀ s, I [] s → Tot (K s) Φ) : Tot ((Pl.forO f xs s).bind (Pl.out K E)) Φ := by
  refine Tot.forO I (fun _ => False) (fun _ => False) h0 (fun x xs s h => (step x xs s h).imp fun o q => ?_) (fun s q => q.elim (k s) False.elim) fun _ h => h.elim
  obtain ⟨s2, rfl, q⟩ := q
  exact q
theorem Tot.whO {t : σ → Option Bool} {f : σ → Option (Pl.Out σ ρ)} {Q : σ ⊕ ρ → Prop} (I : Nat → σ → Prop) (step : ∀ n s, I n s → Tot (t s) fun p => (p = false → Q (.inl s)) ∧ (p = true → Tot (f s) fun o => match o with | .go s2 => ∃ m, m < n ∧ I m s2 | .brk s2 => Q (.inl s2) | .ret r => Q (.inr r))) : ∀ (n : Nat) (s : σ), I n s → Tot (Pl.whO t f s) Q := by
  intro n
  induction n using Nat.strongRecOn with
  | ind n ih =>
    intro s h
    obtain ⟨p, e, q1, q2⟩ := step n s h
    cases p with
    | false => exact ⟨.inl s, by rw [Pl.whO, e], q1 rfl⟩
    | true =>
      obtain ⟨o, e2, q⟩ := q2 rfl
      cases o with
      | go s2 =>
        obtain ⟨m, hm, q⟩ := q
        obtain ⟨r, e3, q3⟩ := ih m hm s2 q
        exact ⟨r, by rw [Pl.whO, e]; dsimp only; rw [e2]; exact e3, q3⟩
      | brk s2 => exact ⟨.inl s2, by rw [Pl.whO, e]; dsimp only; rw [e2], q⟩
      | ret r => exact ⟨.inr r, by rw [Pl.whO, e]; dsimp only; rw [e2], q⟩
theorem Tot.wh {t : σ → Option Bool} {f : σ → Option (Pl.Out σ ρ)} {s : σ} {K : σ → Option α} {E : ρ → Option α} (I : Nat → σ → Prop) (QB : σ → Prop) (QR : ρ → Prop) (n : Nat) (h0 : I n s) (step : ∀ n s, I n s → Tot (t s) fun p => (p = false → QB s) ∧ (p = true → Tot (f s) fun o => match o with | .go s2 => ∃ m, m < n ∧ I m s2 | .brk s2 => QB s2 | .ret r => QR r))
    (k : ∀ s, QB s → Tot (K s) Φ) (kr : ∀ r, QR r → Tot (E r) Φ) : Tot ((Pl.whO t f s).bind (Pl.out K E)) Φ := by
  refine Tot.bind (Tot.whO (Q := fun o => match o with | .inl s => QB s | .inr r => QR r) I (fun n s h => (step n s h).imp fun p q => ⟨q.1, fun hp => (q.2 hp).imp fun o q => ?_⟩) n s h0) fun o q => ?_
  · cases o with
    | go s2 => exact q
    | brk s2 => exact q
    | ret r => exact q
  · cases o with
    | inl s => exact k s q
    | inr r => exact kr r q
/-! ### operations that are told -/
theorem comp_t {p : β → Bool} {f : β → γ} : ∀ xs : List β, Pl.cmp (fun x => some (p x)) (fun x => some (f x)) xs = some ((xs.filter p).map f)
  | [] => rfl
  | x :: xs => by
    rw [Pl.cmp]
    show (if p x = true then (some (f x)).bind fun y => (Pl.cmp _ _ xs).bind fun ys => some (y :: ys) else Pl.cmp _ _ xs) = _
    rw [comp_t xs]
    cases h : p x with
    | true => rw [if_pos rfl, List.filter_cons_of_pos h]; rfl
    | false => rw [if_neg (by decide), List.filter_cons_of_neg (by rw [h]; decide)]
theorem comp_tt {p : β → Bool} {f : β → γ} {xs : List β} (h : xs.length ≤ szl) : Pl.comp (fun x => some (p x)) (fun x => some (f x)) xs = some ((xs.filter p).map f) := by
  unfold Pl.comp
  rw [if_pos h, comp_t]
theorem filt_true {xs : List β} : xs.filter (fun _ => true) = xs := List.filter_eq_self.mpr fun _ _ => rfl
theorem comp_m {f : β → γ} {xs : List β} (h : xs.length ≤ szl) : Pl.comp (fun _ => some true) (fun x => some (f x)) xs = some (xs.map f) := by
  rw [comp_tt (p := fun _ => true) h, filt_true]
/-- .. whose tests and elements are told of the members -/
theorem cmp_e {t : β → Option Bool} {g : β → Option γ} {p : β → Bool} {f : β → γ} : ∀ {xs : List β}, (∀ x ∈ xs, t x = some (p x) ∧ (p x = true → g x = some (f x))) → Pl.cmp t g xs = some ((xs.filter p).map f)
  | [], _ => rfl
  | x :: xs, h => by
    obtain ⟨h1, h2⟩ := h x List.mem_cons_self
    have ih := cmp_e (xs := xs) fun y hy => h y (List.mem_cons_of_mem _ hy)
    rw [Pl.cmp, h1]
    show (if p x = true then (g x).bind fun y => (Pl.cmp t g xs).bind fun ys => some (y :: ys) else Pl.cmp t g xs) = _
    rw [ih]
    cases hp : p x with
    | true => rw [if_pos rfl, List.filter_cons_of_pos hp, h2 hp]; rfl
    | false => rw [if_neg (by decide), List.filter_cons_of_neg (by rw [hp]; decide)]
theorem comp_e {t : β → Option Bool} {g : β → Option γ} {xs : List β} (p : β → Bool) (f : β → γ) (hl : xs.length ≤ szl) (h : ∀ x ∈ xs, t x = some (p x) ∧ (p x = true → g x = some (f x))) : Pl.comp t g xs = some ((xs.filter p).map f) := by
  unfold Pl.comp
  rw [if_pos hl, cmp_e h]
theorem comp_em {g : β → Option γ} {xs : List β} (f : β → γ) (hl : xs.length ≤ szl) (h : ∀ x ∈ xs, g x = some (f x)) : Pl.comp (fun _ => some true) g xs = some (xs.map f) := by
  rw [comp_e (fun _ => true) f hl fun x hx => ⟨rfl, fun _ => h x hx⟩, filt_true]
theorem app_t {xs : List β} {x : β} (h : xs.length < szl) : Pl.app xs x = some (xs ++ [x]) := if_pos h
theorem cat_t {xs ys : List β} (h : xs.length + ys.length < szl) : Pl.cat xs ys = some (xs ++ ys) := if_pos h
theorem mul_t {i j : Int} {n m : Nat} (hi : Smn n i) (hj : Smn m j) (hn : n ≤ bigN) (hm : m ≤ bigN) : Pl.mul i j = some (i * j) := if_pos ⟨hi.up hn, hj.up hm⟩
theorem mul64 {i j : Int} (hi : -9223372036854775808 ≤ i ∧ i ≤ 9223372036854775807) (hj : -9223372036854775808 ≤ j ∧ j ≤ 9223372036854775807) : Pl.mul i j = some (i * j) := mul_t (Smn.of hi) (Smn.of hj) (by decide) (by decide)
theorem div64 {i j : Int} (h : 0 < j) (hj : j ≤ 9223372036854775807) : Pl.div i j = some (i / j) := if_pos ⟨h, (Smn.of ⟨by omega, hj⟩).up (by decide)⟩
theorem mod_t {i j : Int} (h : 0 < j) : Pl.mod i j = some (i % j) := if_pos h
theorem at_t {xs : List β} {i : Int} {n : Nat} {x : β} (hi : i = (n : Int)) (h : xs[n]? = some x) : Pl.at_ xs i = some x := by
  subst hi
  exact atI_nat h
theorem at_in {xs : List β} {i : Int} (h0 : 0 ≤ i) (h : i < xs.length) : ∃ x, xs[i.toNat]? = some x ∧ Pl.at_ xs i = some x := by
  have hl : i.toNat < xs.length := by omega
  exact ⟨_, List.getElem?_eq_getElem hl, at_t (n := i.toNat) (by omega) (List.getElem?_eq_getElem hl)⟩
theorem at_last {xs : List β} {x : β} : Pl.at_ (xs ++ [x]) (-1) = some x := by
  have e : ixN (xs ++ [x]).length (-1) = some xs.length := by
    unfold ixN
    rw [if_neg (by decide), List.length_append, List.length_singleton, if_pos (by omega)]
    congr 1
    omega
  unfold Pl.at_ atI
  rw [e]
  show (xs ++ [x])[xs.length]? = _
  rw [List.getElem?_append_right (Nat.le_refl _), Nat.sub_self]
  rfl
theorem pop_t {xs : List β} {x : β} : Pl.pop (xs ++ [x]) = some (x, xs) := by
  unfold Pl.pop
  rw [List.getLast?_concat]
  simp
theorem andO_t {p q : Bool} : Pl.andO p (some q) = some (p && q) := by cases p <;> rfl
theorem orO_t {p q : Bool} : Pl.orO p (some q) = some (p || q) := by cases p <;> rfl
/-- lists in strict order with the same members -/
theorem eq_of_lt : ∀ {xs ys : List Int}, xs.Pairwise (· < ·) → ys.Pairwise (· < ·) → (∀ n, n ∈ xs ↔ n ∈ ys) → xs = ys
  | [], [], _, _, _ => rfl
  | [], y :: ys, _, _, h => by have := (h y).mpr List.mem_cons_self; cases this
  | x :: xs, [], _, _, h => by have := (h x).mp List.mem_cons_self; cases this
  | x :: xs, y :: ys, hx, hy, h => by
    rw [List.pairwise_cons] at hx hy
    have hxy : x = y := by
      rcases List.mem_cons.mp ((h x).mp List.mem_cons_self) with e | e
      · exact e
      · rcases List.mem_cons.mp ((h y).mpr List.mem_cons_self) with e2 | e2
        · exact e2.symm
        · have h1 := hy.1 x e
          have h2 := hx.1 y e2
          omega
    subst hxy
    rw [eq_of_lt hx.2 hy.2 fun n => ?_]
    constructor
    · intro hn
      rcases List.mem_cons.mp ((h n).mp (List.mem_cons_of_mem _ hn)) with e | e
      · subst e
        have := hx.1 n hn
        omega
      · exact e
    · intro hn
      rcases List.mem_cons.mp ((h n).mpr (List.mem_cons_of_mem _ hn)) with e | e
      · subst e
        have := hy.1 n hn
        omega
      · exact e
theorem rng_snoc {a b : Int} (h : a ≤ b) : Pl.rng a (b + 1) = Pl.rng a b ++ [b] := by
  unfold Pl.rng
  have e : (b + 1 - a).toNat = (b - a).toNat + 1 := by omega
  rw [e, List.range_succ, List.map_append, List.map_singleton]
  congr 2
  omega
theorem maxL_spec : ∀ {xs : List Int}, xs ≠ [] → ∃ m, F.maxL xs = some m ∧ m ∈ xs ∧ ∀ x ∈ xs, x ≤ m
  | [], h => absurd rfl h
  | x :: xs, _ => by
    have key : ∀ (ys : List Int) (a : Int), (ys.foldl (fun a b => if a < b then b else a) a ∈ a :: ys) ∧ ∀ y ∈ a :: ys, y ≤ ys.foldl (fun a b => if a < b then b else a) a := by
      intro ys
      induction ys with
      | nil => intro a; exact ⟨List.mem_singleton.mpr rfl, fun y hy => by rw [List.mem_singleton.mp hy]; exact Int.le_refl _⟩
      | cons b ys ih =>
        intro a
        rw [List.foldl_cons]
        obtain ⟨h1, h2⟩ := ih (if a < b then b else a)
        constructor
        · rcases List.mem_cons.mp h1 with e | e
          · rw [e]
            split
            · exact List.mem_cons_of_mem _ List.mem_cons_self
            · exact List.mem_cons_self
          · exact List.mem_cons_of_mem _ (List.mem_cons_of_mem _ e)
        · intro y hy
          have h3 := h2 _ List.mem_cons_self
          rcases List.mem_cons.mp hy with e | hy
          · rw [e]; exact Int.le_trans (by split <;> omega) h3
          · rcases List.mem_cons.mp hy with e | hy
            · rw [e]; exact Int.le_trans (by split <;> omega) h3
            · exact h2 y (List.mem_cons_of_mem _ hy)
    exact ⟨_, rfl, (key xs x).1, (key xs x).2⟩
theorem minL_spec : ∀ {xs : List Int}, xs ≠ [] → ∃ m, F.minL xs = some m ∧ m ∈ xs ∧ ∀ x ∈ xs, m ≤ x
  | [], h => absurd rfl h
  | x :: xs, _ => by
    have key : ∀ (ys : List Int) (a : Int), (ys.foldl (fun a b => if b < a then b else a) a ∈ a :: ys) ∧ ∀ y ∈ a :: ys, ys.foldl (fun a b => if b < a then b else a) a ≤ y := by
      intro ys
      induction ys with
      | nil => intro a; exact ⟨List.mem_singleton.mpr rfl, fun y hy => by rw [List.mem_singleton.mp hy]; exact Int.le_refl _⟩
      | cons b ys ih =>
        intro a
        rw [List.foldl_cons]
        obtain ⟨h1, h2⟩ := ih (if b < a then b else a)
        constructor
        · rcases List.mem_cons.mp h1 with e | e
          · rw [e]
            split
            · exact List.mem_cons_of_mem _ List.mem_cons_self
            · exact List.mem_cons_self
          · exact List.mem_cons_of_mem _ (List.mem_cons_of_mem _ e)
        · intro y hy
          have h3 := h2 _ List.mem_cons_self
          rcases List.mem_cons.mp hy with e | hy
          · rw [e]; exact Int.le_trans h3 (by split <;> omega)
          · rcases List.mem_cons.mp hy with e | hy
            · rw [e]; exact Int.le_trans h3 (by split <;> omega)
            · exact h2 y (List.mem_cons_of_mem _ hy)
    exact ⟨_, rfl, (key xs x).1, (key xs x).2⟩
theorem max_is {xs : List Int} {m : Int} (h : m ∈ xs) (g : ∀ x ∈ xs, x ≤ m) : F.maxL xs = some m := by
  obtain ⟨k, e, h1, h2⟩ := maxL_spec (List.ne_nil_of_mem h)
  have a := h2 m h
  have b := g k h1
  rw [e, show k = m by omega]
theorem min_is {xs : List Int} {m : Int} (h : m ∈ xs) (g : ∀ x ∈ xs, m ≤ x) : F.minL xs = some m := by
  obtain ⟨k, e, h1, h2⟩ := minL_spec (List.ne_nil_of_mem h)
  have a := h2 m h
  have b := g k h1
  rw [e, show k = m by omega]
/-- one alone -/
theorem one_of {p : β → Bool} : ∀ {xs : List β}, xs.Pairwise (fun a b => ¬ (p a = true ∧ p b = true)) → (∃ x ∈ xs, p x = true) → (xs.filter p).length = 1
  | [], _, ⟨_, h, _⟩ => nomatch h
  | x :: xs, hp, ⟨y, hy, py⟩ => by
    rw [List.pairwise_cons] at hp
    cases h : p x with
    | true =>
      rw [List.filter_cons_of_pos h, List.filter_eq_nil_iff.mpr fun z hz pz => hp.1 z hz ⟨h, pz⟩]
      rfl
    | false =>
      rw [List.filter_cons_of_neg (by rw [h]; decide)]
      rcases List.mem_cons.mp hy with e | e
      · rw [e, h] at py; cases py
      · exact one_of hp.2 ⟨y, e, py⟩
end
end Mi

set_option Elab.async false
set_option linter.all false
set_option maxRecDepth 100000
/-! Mi, part Da: dicts in plain terms; n in range(k); len of a dict. -/
namespace Mi
open PySem PySem.Spec PyProof.Rows L2
section
variable {X : Cx} {Tb : Tbs}
/-! ### n in range(k) -/
theorem cr_range1 : CallR X (.type "range") (fun vs H Q => ∃ i, vs = [V.int i] ∧ ∀ p, H p = none → Q (.ref p) (upd H p (.rng 0 i))) := by
  intro pins s σ H vs us Q I r h
  obtain ⟨i, rfl, q⟩ := h
  obtain ⟨u1, rfl, ri⟩ := vals1 r
  obtain ⟨t, rfl⟩ := ri
  refine call_range_1 ⟨.ref s.heap.objs.size, upd H s.heap.objs.size (.rng 0 i), I.laid (t' := s.toks + 1 + 1) (fun b o e => Heap.get?_push_of_some _ e) (Nat.le_refl _) ?_, rfl, q _ (I.hok.fresh (Nat.le_refl _))⟩
  exact ⟨s.toks, t, s.toks + 1, Heap.get?_push_size _ rfl⟩
def O.inR (x y : D) (_ : Z) : Option D := match x, y with
  | .int i, .int n => some (.bl (decide (0 ≤ i ∧ i < n)))
  | _, _ => none
def rIR : R2 := fun x y H Q => ∃ i n, x = V.int i ∧ y = V.int n ∧ ∀ p, H p = none → Q (.bl (decide (0 ≤ i ∧ i < n))) (upd H p (.rng 0 n))
theorem rIR_ok {K : Kx} : OpV K rIR O.inR := by
  intro B F rho om z σ H x y xv yv d R rx ry e Q k
  unfold O.inR at e
  split at e
  · cases e
    obtain rfl := rv_int rx
    obtain rfl := rv_int ry
    exact ⟨_, _, rfl, rfl, fun p hp => k F _ _ (Same.refl F) (R.new hp).1 (.pure (.bl _))⟩
  · cases e
theorem inR_go {K : Kx} {ma mb : M D} : ∀ σ H Q, Te K (E.op O.inR ma mb) σ H Q → tOp (fun x y H Q => ∃ i a lo hi, x = V.int i ∧ y = V.ref a ∧ H a = some (.rng lo hi) ∧ Q (.bl (decide (lo ≤ i ∧ i < hi))) H) (Te K ma) (tCB (fun vs H Q => ∃ i, vs = [V.int i] ∧ ∀ p, H p = none → Q (.ref p) (upd H p (.rng 0 i))) (tCons (Te K mb) tNil)) σ H Q := by
  intro σ H Q h
  exact Tx.mono (op_go rIR_ok σ H Q h) fun x H1 h1 => Tx.mono h1 fun y H2 ⟨i, n, h2, h3, q⟩ => ⟨n, by rw [h3], fun p hp => ⟨i, p, 0, n, h2, rfl, upd_same, q p hp⟩⟩
theorem me_inR {a e : Expr} {x : Str} {p p2 pos : Pos} {ma mb : M D} (ha : PE X a (Te (kx X Tb) ma)) (hb : PE X e (Te (kx X Tb) mb)) (hg : Gl X x) (hm : X.mg x = none) (hv : bootBuiltins x = some (.type "range")) (hn : x ≠ "__name__" := by decide) (hdb : (x == ("__debug__" : Str)) = false := by decide)
    (he : starEach [e] X.env = (false, eval e X.env) :: starEach [] X.env := by rfl) (hpl : (backTo p2 (starEach [] X.env)).any (·.1) = false := by rfl) (hk : behindInMarks .In (.Call (.Name x p) [e] [] p2) = false := by rfl) :
    PE X (.Compare a [.In] [.Call (.Name x p) [e] [] p2] pos) (Te (kx X Tb) (E.op O.inR ma mb)) :=
  pe_imp (pe_cmpR op_in_rng ha (pe_callTy cr_range1 hg hm hv (pa_cons hb pa_nil he) hn hdb he hpl) hk) inR_go
theorem mt_inR {a e : Expr} {x : Str} {p p2 pos : Pos} {ma mb : M D} (ha : PE X a (Te (kx X Tb) ma)) (hb : PE X e (Te (kx X Tb) mb)) (hg : Gl X x) (hm : X.mg x = none) (hv : bootBuiltins x = some (.type "range")) (hn : x ≠ "__name__" := by decide) (hdb : (x == ("__debug__" : Str)) = false := by decide)
    (he : starEach [e] X.env = (false, eval e X.env) :: starEach [] X.env := by rfl) (hpl : (backTo p2 (starEach [] X.env)).any (·.1) = false := by rfl) (hk : behindInMarks .In (.Call (.Name x p) [e] [] p2) = false := by rfl) :
    PT X (.Compare a [.In] [.Call (.Name x p) [e] [] p2] pos) (Tt (kx X Tb) (T.val (E.op O.inR ma mb))) :=
  pt_imp (pt_cmpR op_in_rng ha (pe_callTy cr_range1 hg hm hv (pa_cons hb pa_nil he) hn hdb he hpl) hk) (tv_go inR_go)
/-! ### len of a dict -/
def F.lenD : List D → Z → Option D
  | [x], z => match dcont x z with
    | some (.dk kvs) => some (.int kvs.length)
    | some (.dt kvs) => some (.int kvs.length)
    | _ => none
  | _, _ => none
theorem call_lenD : CallR X (.builtin "len") (fun xs H Q => ∃ p n, xs = [V.ref p] ∧ ((∃ kvs, Rd H p (.dK kvs) ∧ n = kvs.length) ∨ ∃ kvs, Rd H p (.dT kvs) ∧ n = kvs.length) ∧ Q (.int ((n : Nat) : Int)) H) := by
  intro pins s σ H xs us Q I r h
  obtain ⟨p, n, rfl, h, q⟩ := h
  obtain ⟨u, rfl, rx⟩ := vals1 r
  obtain rfl : u = .ref p := rx
  rcases h with ⟨kvs, h, rfl⟩ | ⟨kvs, h, rfl⟩
  · exact d_len I h fun t s' I' => ⟨.int _, H, I', ⟨_, rfl⟩, q⟩
  · obtain ⟨z, hd, ys, rel, dd⟩ := dt_rd I.hok h
    have hl : kvs.length = ys.length := Paired.length rel
    refine call_len_dictH hd dd (by rw [← hl]; rw [sizeLine_eq] at z; omega) ?_
    rw [← hl]
    exact ⟨.int ((kvs.length : Nat) : Int), H, I.tok _, ⟨_, rfl⟩, q⟩
theorem f_lenD : CallM X (.builtin "len") F.lenD := by
  refine ⟨_, call_lenD, ?_⟩
  intro Tb B F rho om z σ H xs vs d R r e Q k
  unfold Mi.F.lenD at e
  split at e
  · obtain ⟨v, rfl, rv⟩ := rvs1 r
    split at e
    · rename_i kvs hc
      cases e
      obtain ⟨a, rfl, ⟨kv2, es, e1, h, q⟩ | ⟨kv2, es, e1, h, q⟩⟩ := dcont_ok R rv hc
      · cases e1
        refine ⟨a, _, rfl, .inl ⟨es, h, rfl⟩, ?_⟩
        rw [q.length]
        exact k F H _ (Same.refl F) R (.pure (.int _))
      · cases e1
    · rename_i kvs hc
      cases e
      obtain ⟨a, rfl, ⟨kv2, es, e1, h, q⟩ | ⟨kv2, es, e1, h, q⟩⟩ := dcont_ok R rv hc
      · cases e1
      · cases e1
        refine ⟨a, _, rfl, .inr ⟨es, h, rfl⟩, ?_⟩
        rw [q.length]
        exact k F H _ (Same.refl F) R (.pure (.int _))
    · cases e
  · cases e
end
theorem lookup_notK {f : Str} {fs : List (Str × D)} {ks : List Str} (hk : fs.map Prod.fst = ks) (h : ks.contains f = false) : (fs.lookup f).isNone = true := lookup_not (by rw [hk]; exact h)
/-! ### dicts by plain keys -/
structure KEnc (κ : Type) where
  k : κ → Key
  inj : ∀ a b, k a = k b → a = b
structure TEnc (κ : Type) where
  k : κ → List Key
  inj : ∀ a b, k a = k b → a = b
def yI : KEnc Int := ⟨.inl, fun _ _ h => Sum.inl.inj h⟩
def yS : KEnc Str := ⟨.inr, fun _ _ h => Sum.inr.inj h⟩
section
variable {α β γ δ κ : Type}
def y2 (a : KEnc α) (b : KEnc β) : TEnc (α × β) := ⟨fun p => [a.k p.1, b.k p.2], fun p q h => by
  rw [List.cons.injEq, List.cons.injEq] at h
  exact Prod.ext (a.inj _ _ h.1) (b.inj _ _ h.2.1)⟩
def y3 (a : KEnc α) (b : KEnc β) (c : KEnc γ) : TEnc (α × β × γ) := ⟨fun p => [a.k p.1, b.k p.2.1, c.k p.2.2], fun p q h => by
  rw [List.cons.injEq, List.cons.injEq, List.cons.injEq] at h
  exact Prod.ext (a.inj _ _ h.1) (Prod.ext (b.inj _ _ h.2.1) (c.inj _ _ h.2.2.1))⟩
def y4 (a : KEnc α) (b : KEnc β) (c : KEnc γ) (d : KEnc δ) : TEnc (α × β × γ × δ) := ⟨fun p => [a.k p.1, b.k p.2.1, c.k p.2.2.1, d.k p.2.2.2], fun p q h => by
  rw [List.cons.injEq, List.cons.injEq, List.cons.injEq, List.cons.injEq] at h
  exact Prod.ext (a.inj _ _ h.1) (Prod.ext (b.inj _ _ h.2.1) (Prod.ext (c.inj _ _ h.2.2.1) (d.inj _ _ h.2.2.2.1)))⟩
@[reducible] def eK (y : KEnc κ) (e : α → D) (kvs : List (κ × α)) : D := .dk (kvs.map fun kv => (y.k kv.1, e kv.2))
@[reducible] def eT (y : TEnc κ) (e : α → D) (kvs : List (κ × α)) : D := .dt (kvs.map fun kv => (y.k kv.1, e kv.2))
namespace Pl
variable [DecidableEq κ]
def dput (kvs : List (κ × α)) (k : κ) (v : α) : Option (List (κ × α)) := if kvs.length < szl then some (putG kvs k v) else none
end Pl
variable [DecidableEq κ]
theorem getG_map {κ' : Type} [DecidableEq κ'] {f : κ → κ'} (hf : ∀ a b, f a = f b → a = b) (e : α → β) (k : κ) : ∀ kvs : List (κ × α), getG (kvs.map fun kv => (f kv.1, e kv.2)) (f k) = (getG kvs k).map e
  | [] => rfl
  | kv :: kvs => by
    have ih := getG_map hf e k kvs
    unfold getG at ih ⊢
    rw [List.map_cons, List.find?_cons, List.find?_cons]
    by_cases h : kv.1 = k
    · rw [decide_eq_true h, decide_eq_true (show f kv.1 = f k from congrArg f h)]
      rfl
    · rw [decide_eq_false h, decide_eq_false (show ¬ f kv.1 = f k from fun e => h (hf _ _ e))]
      exact ih
theorem putG_map {κ' : Type} [DecidableEq κ'] {f : κ → κ'} (hf : ∀ a b, f a = f b → a = b) (e : α → β) (k : κ) (v : α) (kvs : List (κ × α)) : putG (kvs.map fun kv => (f kv.1, e kv.2)) (f k) (e v) = (putG kvs k v).map fun kv => (f kv.1, e kv.2) := by
  have hd : ∀ a : κ, decide (f a = f k) = decide (a = k) := fun a => by
    by_cases h : a = k
    · rw [decide_eq_true h, decide_eq_true (congrArg f h)]
    · rw [decide_eq_false h, decide_eq_false (fun e => h (hf _ _ e))]
  unfold putG
  have ha : ((kvs.map fun kv => (f kv.1, e kv.2)).any fun kv => decide (kv.1 = f k)) = kvs.any fun kv => decide (kv.1 = k) := by
    rw [List.any_map]
    congr 1
    funext kv
    exact hd kv.1
  rw [ha]
  split
  · rw [List.map_map, List.map_map]
    apply List.map_congr_left
    intro kv _
    simp only [Function.comp]
    by_cases h : kv.1 = k
    · rw [if_pos h, if_pos (congrArg f h)]
    · rw [if_neg h, if_neg (fun e => h (hf _ _ e))]
  · rw [List.map_append]
    rfl
theorem dgT {y : TEnc κ} {e : α → D} {kvs : List (κ × α)} {x : D} {k : κ} (h : keyT x = some (y.k k)) : dgetC (eT y e kvs) x = some ((getG kvs k).map e) := by
  unfold dgetC
  dsimp only
  rw [h]
  dsimp only
  rw [getG_map y.inj]
theorem dgK {y : KEnc κ} {e : α → D} {kvs : List (κ × α)} {x : D} {k : κ} (h : keyD x = some (y.k k)) : dgetC (eK y e kvs) x = some ((getG kvs k).map e) := by
  unfold dgetC
  dsimp only
  rw [h]
  dsimp only
  rw [getG_map y.inj]
theorem dpT {y : TEnc κ} {e : α → D} {kvs r : List (κ × α)} {x : D} {k : κ} {v : α} (h : keyT x = some (y.k k)) (hr : Pl.dput kvs k v = some r) : dputC (eT y e kvs) x (e v) = some (eT y e r) := by
  unfold Pl.dput at hr
  unfold dputC
  dsimp only
  rw [h]
  dsimp only
  rw [List.length_map]
  split at hr
  · rename_i c
    cases hr
    rw [if_pos c, putG_map y.inj]
  · cases hr
theorem dpK {y : KEnc κ} {e : α → D} {kvs r : List (κ × α)} {x : D} {k : κ} {v : α} (h : keyD x = some (y.k k)) (hr : Pl.dput kvs k v = some r) : dputC (eK y e kvs) x (e v) = some (eK y e r) := by
  unfold Pl.dput at hr
  unfold dputC
  dsimp only
  rw [h]
  dsimp only
  rw [List.length_map]
  split at hr
  · rename_i c
    cases hr
    rw [if_pos c, putG_map y.inj]
  · cases hr
end
section
variable {α β γ σ ρ κ : Type} {o : Option α} {m a b c : M D} {rest : C} {x y w cc : D} {z z1 z2 z3 : Z} {s s' : List Sl} {h : List D} {Φ : α → Fl → Z → Prop} [DecidableEq κ]
theorem ev_dinP {kvs : List (κ × β)} {k : κ} {e : β → D} (h1 : a z = some (x, z1)) (h2 : b z1 = some (y, z2)) (h3 : dcont y z2 = some cc) (hg : dgetC cc x = some ((getG kvs k).map e)) : E.op O.din a b z = some (.bl (getG kvs k).isSome, z2) := by
  rw [ev_din h1 h2 h3 hg, Option.isSome_map]
theorem ev_dnotInP {kvs : List (κ × β)} {k : κ} {e : β → D} (h1 : a z = some (x, z1)) (h2 : b z1 = some (y, z2)) (h3 : dcont y z2 = some cc) (hg : dgetC cc x = some ((getG kvs k).map e)) : E.op O.dnotIn a b z = some (.bl (!(getG kvs k).isSome), z2) := by
  rw [ev_dnotIn h1 h2 h3 hg, Option.isSome_map]
theorem ev_dixP {kvs : List (κ × β)} {k : κ} {e : β → D} {r : β} (h1 : a z = some (x, z1)) (h2 : b z1 = some (y, z2)) (h3 : dcont x z2 = some cc) (hg : dgetC cc y = some ((getG kvs k).map e)) (hr : getG kvs k = some r) : E.op O.dix a b z = some (e r, z2) :=
  ev_dix h1 h2 h3 (by rw [hg, hr]; rfl)
theorem ev_get1P {kvs : List (κ × β)} {k : κ} {e : β → D} (h1 : a z = some (x, z1)) (h0 : (dcont x z1).isSome = true) (h2 : b z1 = some (y, z2)) (h3 : dcont x z2 = some cc) (hg : dgetC cc y = some ((getG kvs k).map e)) : E.get1 a b z = some (eO e (getG kvs k), z2) := by
  rw [ev_get1 h1 h0 h2 h3 hg]
  cases getG kvs k <;> rfl
theorem ev_get2P {kvs : List (κ × β)} {k : κ} {e : β → D} {v : β} (h1 : a z = some (x, z1)) (h0 : (dcont x z1).isSome = true) (h2 : b z1 = some (y, z2)) (h5 : c z2 = some (e v, z3)) (hw : isPure (e v) = true) (h3 : dcont x z3 = some cc) (hg : dgetC cc y = some ((getG kvs k).map e)) : E.get2 a b c z = some (e ((getG kvs k).getD v), z3) := by
  rw [ev_get2 h1 h0 h2 h5 hw h3 hg]
  cases getG kvs k <;> rfl
theorem ev_inR {i n : Int} (h1 : a z = some (.int i, z1)) (h2 : b z1 = some (.int n, z2)) : E.op O.inR a b z = some (.bl (decide (0 ≤ i ∧ i < n)), z2) := ev_op h1 h2 rfl
theorem F_lenT {y : TEnc κ} {e : β → D} {kvs : List (κ × β)} (hc : dcont x z = some (eT y e kvs)) : F.lenD [x] z = some (.int kvs.length) := by
  unfold F.lenD
  dsimp only
  rw [hc]
  simp
theorem F_lenK {y : KEnc κ} {e : β → D} {kvs : List (κ × β)} (hc : dcont x z = some (eK y e kvs)) : F.lenD [x] z = some (.int kvs.length) := by
  unfold F.lenD
  dsimp only
  rw [hc]
  simp
/-- d = {} -/
theorem Rf.ownD {i : Nat} {d : D} (he : m z = some (d, ⟨s, h⟩)) (hn : i < s.length) (hs : s.set i (.own d) = s') (k : Rf o rest ⟨s', h⟩ Φ) : Rf o (C.seq (C.ownN i m) rest) z Φ := k.nx (cs_ownD he hn hs)
theorem Rf.frzD {i : Nat} {d : D} (h1 : s[i]? = some (.own d)) (hd : C.isDict d = true) (hs : s.set i (.val d) = s') (k : Rf o rest ⟨s', h⟩ Φ) : Rf o (C.seq (C.frzD i) rest) ⟨s, h⟩ Φ := k.nx (cs_frzD h1 hd hs)
/-- d[k] = v -/
theorem Rf.dputT {n : Nat} {Y : TEnc κ} {kvs : List (κ × β)} {k0 : κ} {v : β} {K : List (κ × β) → Option α} (e : β → D) (he : m z = some (e v, z1)) (ha : a z1 = some (.own n, z2)) (hb : b z2 = some (y, ⟨s, h⟩)) (hn : s[n]? = some (.own (eT Y e kvs))) (hk : keyT y = some (Y.k k0)) (hp : isPure (e v) = true) {s' : List (κ × β) → List Sl} (hs : ∀ r, s.set n (.own (eT Y e r)) = s' r)
    (k : ∀ r, Rf (K r) rest ⟨s' r, h⟩ Φ) : Rf ((Pl.dput kvs k0 v).bind K) (C.seq (C.dput a b m) rest) z Φ := Rf.bd fun r hr =>
  (k r).nx (cs_dputO he ha hb hn (dpT hk hr) hp (hs r))
theorem Rf.dputK {n : Nat} {Y : KEnc κ} {kvs : List (κ × β)} {k0 : κ} {v : β} {K : List (κ × β) → Option α} (e : β → D) (he : m z = some (e v, z1)) (ha : a z1 = some (.own n, z2)) (hb : b z2 = some (y, ⟨s, h⟩)) (hn : s[n]? = some (.own (eK Y e kvs))) (hk : keyD y = some (Y.k k0)) (hp : isPure (e v) = true) {s' : List (κ × β) → List Sl} (hs : ∀ r, s.set n (.own (eK Y e r)) = s' r)
    (k : ∀ r, Rf (K r) rest ⟨s' r, h⟩ Φ) : Rf ((Pl.dput kvs k0 v).bind K) (C.seq (C.dput a b m) rest) z Φ := Rf.bd fun r hr =>
  (k r).nx (cs_dputO he ha hb hn (dpK hk hr) hp (hs r))
theorem Rf.retD {n : Nat} {d : D} {r : α} (he : m z = some (.own n, ⟨s, h⟩)) (hn : s[n]? = some (.own d)) (hd : C.isDict d = true) (q : Φ r (.rt d) ⟨s.set n .no, h⟩) : Rf (some r) (C.seq (C.retD m) rest) z Φ := fun r' e => by
  cases e
  exact ⟨_, _, cs_rt (cs_retD he hn hd), q⟩
theorem dc_own {n : Nat} {Y : TEnc κ} {e : β → D} {kvs : List (κ × β)} (hn : z.s[n]? = some (.own (eT Y e kvs))) : dcont (.own n) z = some (eT Y e kvs) := by
  unfold dcont
  dsimp only
  rw [hn]
theorem dc_ownK {n : Nat} {Y : KEnc κ} {e : β → D} {kvs : List (κ × β)} (hn : z.s[n]? = some (.own (eK Y e kvs))) : dcont (.own n) z = some (eK Y e kvs) := by
  unfold dcont
  dsimp only
  rw [hn]
theorem cutL_map {xs : List β} {e : β → D} {lo hi : Option Int} : N.cutL (xs.map e) lo hi = (N.cutL xs lo hi).map e := by
  unfold N.cutL
  rw [List.length_map, List.map_take, List.map_drop]
theorem ev_sliceP {lo hi : Option (M D)} {l u : Option Int} {xs : List β} {e : β → D} (h1 : a z = some (x, z1)) (h2 : N.part lo z1 = some (l, z2)) (h3 : N.part hi z2 = some (u, z3)) (h4 : cont x z3 = some (false, xs.map e)) : N.slice a lo hi z = some ((N.cutL xs l u).map e, z3) := by
  rw [ev_slice h1 h2 h3 h4, cutL_map]
end
end Mi

set_option Elab.async false
set_option linter.all false
set_option maxRecDepth 100000
set_option maxHeartbeats 4000000
/-! Mi, part Dc: a dict comprehension whose keys are tuples. -/
namespace Mi
open PySem PySem.Spec PyProof.Rows L2
section
variable {X : Cx}
theorem put_tup {pins : List (Addr × Obj)} {σ : L2.St} {H : Hp} {s : Shared} {E : Value → Shared → Prop} {D b : Addr} {kvs : List (List Key × V)} {k : List Key} {v : V} {r : Value} {Q : Unit → Shared → Prop}
    (hu : X.A.units < cLine) (inv : Inv X pins σ H s) (isD : H D = some (.dT kvs)) (fits : kvs.length < sizeLine) (isB : H b = some (.tup (k.map kV))) (rv : RelV v r)
    (nxt : ∀ s', Inv X pins σ (upd H D (.dT (putK kvs k v))) s' → Q () s') : wpAny (model X.prog X.w) X.A (dictSet D (.ref b) r) Q E s := by
  obtain ⟨len, notSys, xs, pr, dof⟩ := dt_of inv.hok isD
  refine wpAny_dictSet_heap (knd := tupleKind (mixKind X.prog X.w)) (hsz := by rw [← Paired.length pr]; exact len) hu (key_of inv.hok isB) dof fun hp2 dof2 same => nxt _ ?_
  obtain ⟨ob, es, ep, got, c1, c2, c3, _, c5⟩ := dof2
  refine d_write inv (by rw [isD]; exact True.intro) same ⟨ob, got⟩ ⟨by have := length_putK kvs k v; omega, notSys, _, ?_, ob, es, ep, got, c1, c2, c3, c5⟩
  refine (pr.put k isB rv).keeps fun c ys ec => ?_
  rw [upd_ne (ne_of ec isD fun z => nomatch z)]
  exact ec
/-- {k: v for target in iter}, keys tuples: D the new dict -/
def tDcT (wi : TI) (g : TG) (tk tv : TE) (vs : List Nat) : TE := fun σ H Q => wi σ H fun J H1 => ∀ D, H1 D = none → ∃ W : Nat → Nat → Hp → Prop, (∃ m, W 0 m (upd H1 D (.dT []))) ∧
  ∀ i m H, W i m H → (J.stop i H ∧ Q (.ref D) H) ∨ (J.go i H ∧ ∃ Nx : Hp → Prop, (∀ H', Nx H' → ∃ m', m' < m ∧ W (i + 1) m' H') ∧
    ∀ x H', J.yld i H x H' → g x (wipe σ vs) H' fun σ2 H2 => wipe σ2 vs = wipe σ vs ∧
      tk σ2 H2 fun y H4 => tv σ2 H4 fun z H5 => ∃ kvs k b, y = .ref b ∧ H5 b = some (.tup (k.map kV)) ∧ H5 D = some (.dT kvs) ∧ kvs.length < sizeLine ∧ Nx (upd H5 D (.dT (putK kvs k z))))
theorem dcT_core {pins : List (Addr × Obj)} {s : Shared} {σ : L2.St} {H : Hp} {Q : VK} {kx vx tg iter : Expr} {scope : Scope} {own : List (Str × Nat)} {pos pos' : Pos} {wi : TI} {g : TG} {tk tv : TE} {use : Option (Value → Sem Unit)} {Qf : Value → Shared → Prop}
    (calm : X.calm = true) (nd : X.N.Nodup) (hu : X.A.units < cLine) (inv : Inv X pins σ H s) (src : PI X tg iter wi) (blk : BlkOk X.N X.env.scope scope own)
    (tgt : ∀ (s : Shared) (H : Hp) (C : Addr) (cl : List (Str × Addr)) (fp : List Addr), PG (X.blk s H scope (compEnvC scope cl C X.env) fp) tg g)
    (key : ∀ (s : Shared) (H : Hp) (C : Addr) (cl : List (Str × Addr)) (fp : List Addr), PE (X.blk s H scope (compEnvC scope cl C X.env) fp) kx tk)
    (val : ∀ (s : Shared) (H : Hp) (C : Addr) (cl : List (Str × Addr)) (fp : List Addr), PE (X.blk s H scope (compEnvC scope cl C X.env) fp) vx tv)
    (fold : ∀ x, foldedSetIterable iter X.env x = pure x) (says : tDcT wi g tk tv (own.map (·.2)) σ H Q)
    (back : ∀ D C s' m H', Inv X pins σ H' s' → Q (.ref D) H' → s'.heap.Ns C m → FpOk X pins H' C → compPost (model X.prog X.w) X.A X.xe use Qf (.ref D) C (.ok .next) s') :
    wpAny (model X.prog X.w) X.A (comprehension (.DictComp kx vx [⟨tg, iter, [], 0⟩] scope pos) scope X.env pos' newDict false (eval iter X.env) use) Qf X.xe s := by
  have frees : ∀ y ∈ scope.names, y.2 = .free → ∃ c, X.env.cells.lookup y.1 = some c := by
    intro y hy hf
    rcases blk.free y hy hf with q | q
    · exact inv.ok.has _ (.inl q)
    · exact inv.ok.has _ (.inr q)
  refine wpAny_comprehension_free (use := use) rfl fold (closure_ok frees) blk.kind (fun y hy hf => by rw [blk.uniq y hy, hf]) ?_
  refine thn (src.run pins s σ H _ inv says) fun xv s1 got1 => thn got1 fun itv s2 ⟨it, fp, tn, J, H2, e, inv2, T, at0, fp0, turns⟩ => ?_
  subst e
  refine wpAny_newObj_type (newEnv_comp ?_)
  generalize hD : s2.heap.objs.size = D
  obtain ⟨W, ⟨m0, start⟩, turn⟩ := turns D (inv2.hok.fresh (Nat.le_of_eq hD))
  generalize hs3 : ({ s2 with heap := s2.heap.push { cls := .type "dict", data := .dict #[] } } : Shared) = s3
  have inv3 : Inv X pins σ (upd H2 D (.dT [])) s3 := by
    subst hs3
    refine inv2.laid (t' := s2.toks) (fun b o q => Heap.get?_push_of_some _ q) (Nat.le_of_eq hD) ?_
    subst hD
    exact dt_empty s2.heap inv2.big
  have push3 : s3.heap = s2.heap.push { cls := .type "dict", data := .dict #[] } := by subst hs3; rfl
  have low : ∀ b ∈ fp, b < s2.heap.objs.size := fun b hb => (T.obj _ _ at0 b hb).elim fun o q => Heap.lt_size q.1
  have fp3 : ∀ b ∈ fp, FpOk X pins (upd H2 D (.dT [])) b ∧ b < s3.heap.objs.size := by
    intro b hb
    have lt := low b hb
    refine ⟨⟨?_, (fp0 b hb).2⟩, by rw [push3, Heap.size_push]; exact Nat.lt_succ_of_lt lt⟩
    rw [upd_ne (by rw [← hD]; exact Nat.ne_of_lt lt)]
    exact (fp0 b hb).1
  have at3 : tn 0 s3.heap := T.keep _ _ _ at0 fun b _ o q => by rw [push3]; exact Heap.get?_push_of_some _ q
  have inv4 := block_start inv3 blk nd fp3
  have gT := tgt s3 (upd H2 D (.dT [])) s3.heap.objs.size (cellsFrom (s3.heap.objs.size + 1) scope.names (cloFrom X.env.cells scope.names [])) fp
  have gK := key s3 (upd H2 D (.dT [])) s3.heap.objs.size (cellsFrom (s3.heap.objs.size + 1) scope.names (cloFrom X.env.cells scope.names [])) fp
  have gV := val s3 (upd H2 D (.dT [])) s3.heap.objs.size (cellsFrom (s3.heap.objs.size + 1) scope.names (cloFrom X.env.cells scope.names [])) fp
  have none3 : ∀ b ∈ fp, (upd H2 D (.dT [])) b = none := fun b hb => (fp3 b hb).1.1
  show codeAny _ _ (.compStart (.DictComp kx vx [⟨tg, iter, [], 0⟩] scope pos) 0 (.ref it) (.ref D) (compEnvC scope (cellsFrom (s3.heap.objs.size + 1) scope.names (cloFrom X.env.cells scope.names [])) s3.heap.objs.size X.env))
    (compPost (model X.prog X.w) X.A X.xe use Qf (.ref D) s3.heap.objs.size) { s3 with heap := pushCells (s3.heap.push { cls := .type "dict", data := .dict #[] }) scope.names }
  generalize hce : compEnvC scope (cellsFrom (s3.heap.objs.size + 1) scope.names (cloFrom X.env.cells scope.names [])) s3.heap.objs.size X.env = ce at inv4 gT gK gV ⊢
  have locals : ce.locals = s3.heap.objs.size := by subst hce; rfl
  generalize hH3 : upd H2 D (.dT []) = H3 at inv3 inv4 gT gK gV start none3 fp3
  generalize hs4 : ({ s3 with heap := pushCells (s3.heap.push { cls := .type "dict", data := .dict #[] }) scope.names } : Shared) = s4 at inv4 ⊢
  have at4 : tn 0 s4.heap := T.keep _ _ _ at3 fun b _ o q => by rw [← hs4]; exact pushCells_keeps _ _ _ _ (Heap.get?_push_of_some _ q)
  have fps : ∀ {τ : L2.St} {G : Hp} {t : Shared}, Inv (X.blk s3 H3 scope ce fp) [] τ G t → (∀ b ∈ fp, G b = none) → ∀ b ∈ fp, FpOk (X.blk s3 H3 scope ce fp) [] G b := fun {τ G t} J hn b hb =>
    ⟨hn b hb, (J.ok.exf b hb).1, J.ok.exfs b hb, .inl hb, fun x c q => (J.ok.exf b hb).2 x c q, fun p hp => absurd (show p ∈ ([] : List (Addr × Obj)) ++ [] from hp) (by simp)⟩
  have whole : codeAny (model X.prog X.w) X.A (.compLoop (.DictComp kx vx [⟨tg, iter, [], 0⟩] scope pos) 0 (.ref it) (.ref D) ce) (compPost (model X.prog X.w) X.A X.xe use Qf (.ref D) s3.heap.objs.size) s4 := by
    refine compLoop_anyD (fun n t => ∃ i G, Inv (X.blk s3 H3 scope ce fp) [] (wipe σ (own.map (·.2))) G t ∧ tn i t.heap ∧ (∀ b ∈ fp, G b = none) ∧ W i n G) ?_ m0 ⟨0, H3, inv4, at4, none3, start⟩
    rintro n t ⟨i, G, invG, atG, noneG, wG⟩
    rcases turn i n G wG with ⟨stop, fin⟩ | ⟨go, Nx, less, one⟩
    · refine thnF (T.done (X.blk s3 H3 scope ce fp) rfl rfl rfl calm i [] t _ G (fun _ _ => False) invG (fps invG noneG) atG stop) fun r t2 ⟨hr, invE⟩ => ?_
      subst hr
      have out : Inv X pins σ G t2 := inv3.call' (ch := fp) invE.os invE.base invE.hok invE.bare fun b hb =>
        ⟨(fp3 b hb).1.2.2.2.1, (fp3 b hb).1.2.1, (fp3 b hb).1.2.2.2.2.1, (fp3 b hb).1.2.2.2.2.2⟩
      have noC : G s3.heap.objs.size = none := by
        rw [← locals]
        exact invE.free
      obtain ⟨m, ns, _⟩ := invE.loc
      have ns : t2.heap.Ns ce.locals m := ns
      rw [locals] at ns
      exact back D s3.heap.objs.size t2 m G out fin ns (inv3.fpOk (Nat.le_refl _) noC)
    · refine thnF (T.item (X.blk s3 H3 scope ce fp) rfl rfl rfl calm i [] t _ G (fun _ _ => False) invG (fps invG noneG) atG go) fun r t2 ⟨u, hr, more⟩ => ?_
      subst hr
      refine thnF more fun _ t3 ⟨x, G3, inv5, rx, yx, at5, none5⟩ => ?_
      have inv5p := inv5.pinned (fps inv5 none5) (T.obj _ _ at5)
      refine thnF (gT.run _ t3 _ G3 x u _ inv5p rx (one x G3 yx)) fun _ t4 ⟨τ, G4, inv6, same, q6⟩ => ?_
      refine wpAny_tests_nil ?_
      rw [if_pos rfl]
      refine thnF (gK.run _ t4 τ G4 _ inv6 q6) fun kv t5 ⟨y, G5, inv7, rk, q7⟩ => ?_
      refine thnF (gV.run _ t5 τ G5 _ inv7 q7) fun vv t6 ⟨z, G6, inv8, rz, kvs, k, b, ey, isB, isD, fits, nx⟩ => ?_
      subst ey
      obtain rfl : kv = Value.ref b := rk
      refine put_tup (X := X.blk s3 H3 scope ce fp) hu inv8 isD fits isB rz fun t7 inv9 => ?_
      obtain ⟨m', lt, wN⟩ := less _ nx
      have pinned : ∀ b ∈ fp, ∀ o, t3.heap.get? b = some o → t7.heap.get? b = some o ∧ (upd G6 D (.dT (putK kvs k z))) b = none := fun b hb o q =>
        have z := inv9.pin (b, o) (List.mem_append_right _ (List.mem_append_right _ (mem_pinsAt hb q)))
        ⟨z.1, z.2.1⟩
      refine ⟨m', lt, i + 1, _, (inv9.unpinned (pins := [])).weak (by rw [← same, wipe_length]) (fun j v q => ?_), T.keep _ _ _ at5 fun b hb o q => (pinned b hb o q).1, fun b hb => ?_, wN⟩
      · rw [← same] at q
        exact (wipe_some q).1
      · obtain ⟨o, q, _⟩ := T.obj _ _ at5 b hb
        exact (pinned b hb o q).2
  exact codeAny_compStart_dict whole (T.self X.A 0 _ _ _ at4 whole)
theorem pe_dcT {kx vx tg iter : Expr} {scope : Scope} {own : List (Str × Nat)} {pos : Pos} {wi : TI} {g : TG} {tk tv : TE} (calm : X.calm = true) (nd : X.N.Nodup) (hu : X.A.units < cLine) (src : PI X tg iter wi) (blk : BlkOk X.N X.env.scope scope own)
    (tgt : ∀ (s : Shared) (H : Hp) (C : Addr) (cl : List (Str × Addr)) (fp : List Addr), PG (X.blk s H scope (compEnvC scope cl C X.env) fp) tg g)
    (key : ∀ (s : Shared) (H : Hp) (C : Addr) (cl : List (Str × Addr)) (fp : List Addr), PE (X.blk s H scope (compEnvC scope cl C X.env) fp) kx tk)
    (val : ∀ (s : Shared) (H : Hp) (C : Addr) (cl : List (Str × Addr)) (fp : List Addr), PE (X.blk s H scope (compEnvC scope cl C X.env) fp) vx tv)
    (fold : ∀ x, foldedSetIterable iter X.env x = pure x := by intro _; rfl) : PE X (.DictComp kx vx [⟨tg, iter, [], 0⟩] scope pos) (tDcT wi g tk tv (own.map (·.2))) := by
  constructor
  intro pins s σ H Q inv says
  rw [arm_eval_DictComp]
  refine dcT_core calm nd hu inv src blk tgt key val fold says fun D C s' m H' inv' q ns ⟨f0, f1, _, f3, f4, f5⟩ => ⟨m, ns, fun h2 same => ?_⟩
  exact ⟨.ref D, H', inv'.turned (t' := s'.toks) (fun b o hb e => (same.2 b hb).trans e) f0 f1 f3 f4 f5, rfl, q⟩
end
/-! ### its meaning -/
namespace N
noncomputable def loopDT (it : It) (g : G) (vs : List Nat) (mk mv : M D) : List D → List (List Key × D) → Z → Option (List (List Key × D) × Z)
  | [], acc, z => if it.ok z = true then some (acc, z) else none
  | d :: ds, acc, z => if it.ok z = true then match g.run d z with
    | none => none
    | some z1 => match mk z1 with
      | none => none
      | some (y, z2) => match mv z2 with
        | none => none
        | some (x, z3) => if isPure x = true then match keyT y with
          | none => none
          | some k => loopDT it g vs mk mv ds (putG acc k x) ⟨wipe z3.s vs, z3.h⟩
        else none
    else none
noncomputable def compDT (mi : M It) (g : G) (vs : List Nat) (mk mv : M D) : M D := bnd mi fun it z =>
  if it.items.length ≤ szl ∧ (vs.all fun v => !isOwn z.s[v]?) = true then match loopDT it g vs mk mv it.items [] ⟨wipe z.s vs, z.h⟩ with
    | none => none
    | some (acc, z1) => some (.dt acc, ⟨rest z.s z1.s vs, z1.h⟩)
  else none
end N
theorem keyT_pure {y : D} {k : List Key} (h : keyT y = some k) : isPure y = true := by
  cases y <;> first | rfl | cases h
theorem putG_len {κ α : Type} [DecidableEq κ] (kvs : List (κ × α)) (k : κ) (v : α) : (putG kvs k v).length ≤ kvs.length + 1 := by
  unfold putG
  split
  · rw [List.length_map]; omega
  · rw [List.length_append]; exact Nat.le_refl _
theorem dcT_go {K : Kx} {mi : M It} {g : G} {vs : List Nat} {mk mv : M D} (hw : ∀ w ∈ g.ws, w ∈ vs) : ∀ σ H Q, Tn K (N.compDT mi g vs mk mv) σ H Q → tDcT (Ti K mi) (Tg K g) (Te K mk) (Te K mv) vs σ H Q := by
  rintro σ H Q ⟨B, F, rho, om, z, R, xs, z', e, k⟩
  obtain ⟨it, z1, e1, e2⟩ := bnd_some e
  refine ⟨B, F, rho, om, z, R, it, z1, e1, fun F1 rho1 H1 J s1 p1 R1 ok D hD => ?_⟩
  try dsimp only at e2
  split at e2
  · rename_i hc
    split at e2
    · cases e2
    · rename_i accF zF hloop
      cases e2
      have hn : ∀ v ∈ vs, om v = none := fun v hv => by
        cases q : om v with
        | none => rfl
        | some a =>
          obtain ⟨d, hd⟩ := R1.ow v a q
          have := List.all_eq_true.mp hc.2 v hv
          rw [hd] at this
          cases this
      obtain ⟨R2, f2⟩ := R1.new (o := .dT []) hD
      refine ⟨fun i m H => ∃ F2 rho2 z2 acc es, Same F1 F2 ∧ rho1 <+: rho2 ∧ Rl K B F2 rho2 om z2 (L2.wipe σ vs) H ∧ Fresh K B F2 rho2 om H D ∧ H D = some (.dT es) ∧ Rk K F2 rho2 acc es ∧ m = it.items.length - i ∧ i ≤ it.items.length ∧ acc.length ≤ i ∧ N.loopDT it g vs mk mv (it.items.drop i) acc z2 = some (accF, zF),
        ⟨_, F1, rho1, _, [], [], Same.refl _, List.prefix_refl _, R2.wipe hn, f2, upd_same, .nil, rfl, Nat.zero_le _, Nat.le_refl _, hloop⟩, ?_⟩
      rintro i m H2 ⟨F2, rho2, z2, acc, es, s2, p2, R2, f2, hD2, ra, rfl, hi, hal, hl⟩
      cases hd : it.items.drop i with
      | nil =>
        rw [hd] at hl
        have hl : (if it.ok z2 = true then some (acc, z2) else none) = some (accF, zF) := hl
        split at hl
        · rename_i hok
          cases hl
          have hi2 : it.items.length ≤ i := List.drop_eq_nil_iff.mp hd
          obtain ⟨o1, o2⟩ := ok B F2 rho2 om _ _ H2 s2 p2 R2 (.inl rfl) hok
          exact .inl ⟨o1 i hi2, k F2 rho2 H2 _ (s1.trans s2) (p1.trans p2) (R1.rest s2 p2 R2 hn) ⟨D, rfl, f2, es, hD2, ra.1, ra.2⟩⟩
        · cases hl
      | cons d ds =>
        rw [hd] at hl
        have hds : it.items.drop (i + 1) = ds := by rw [← List.drop_drop, hd]; rfl
        have hget : it.items[i]? = some d := by
          have := List.getElem?_drop (xs := it.items) (i := i) (j := 0)
          rw [hd] at this
          simpa using this.symm
        have hlt : i < it.items.length := (List.getElem?_eq_some_iff.mp hget).1
        unfold N.loopDT at hl
        split at hl
        · rename_i hok
          obtain ⟨o1, o2⟩ := ok B F2 rho2 om z2 _ H2 s2 p2 R2 (.inl rfl) hok
          obtain ⟨g1, y1⟩ := o2 i d hget
          split at hl
          · cases hl
          · rename_i zg hg3
            cases hmk : mk zg with
            | none => rw [hmk] at hl; cases hl
            | some q4 =>
              obtain ⟨y4, z4⟩ := q4
              rw [hmk] at hl
              dsimp only at hl
              cases hmv : mv z4 with
              | none => rw [hmv] at hl; cases hl
              | some q5 =>
                obtain ⟨x5, z5⟩ := q5
                rw [hmv] at hl
                dsimp only at hl
                split at hl
                · rename_i hp5
                  cases hky : keyT y4 with
                  | none => rw [hky] at hl; cases hl
                  | some ky =>
                    rw [hky] at hl
                    dsimp only at hl
                    refine .inr ⟨g1, fun H' => ∃ F3 rho3 z3 acc3 es3, Same F2 F3 ∧ rho2 <+: rho3 ∧ Rl K B F3 rho3 om z3 (L2.wipe σ vs) H' ∧ Fresh K B F3 rho3 om H' D ∧ H' D = some (.dT es3) ∧ Rk K F3 rho3 acc3 es3 ∧ acc3.length ≤ i + 1 ∧ N.loopDT it g vs mk mv ds acc3 z3 = some (accF, zF), ?_, fun x H3 hy => ?_⟩
                    · rintro H' ⟨F3, rho3, z3, acc3, es3, s3, p3, R3, f3, hD3, ra3, hl3, hll⟩
                      exact ⟨it.items.length - (i + 1), by omega, F3, rho3, z3, acc3, es3, s2.trans s3, p2.trans p3, R3, f3, hD3, ra3, rfl, hlt, hl3, by rw [hds]; exact hll⟩
                    · obtain ⟨rfl, F2a, s2a, n2a, R2a, rx⟩ := y1 x H3 hy
                      have ra := Rk.mono s2a (List.prefix_refl _) ra
                      have f2 : Fresh K B F2a rho2 om _ D := ⟨n2a _ _ hD2 (fun _ e => nomatch e) f2.f, f2.r, f2.o, f2.b, f2.t, f2.k⟩
                      refine ⟨B, F2a, rho2, om, z2, d, R2a, rx, zg, hg3, fun om' σ' hw' hl' hom Rg => ?_⟩
                      have eom : om' = om := by
                        funext j
                        by_cases c : j ∈ g.ws
                        · rw [hn j (hw j c)]
                          cases q : om' j with
                          | none => rfl
                          | some a =>
                            have := hom j a q
                            rw [hn j (hw j c)] at this
                            cases this
                        · exact (hw' j c).1
                      subst eom
                      have ew : L2.wipe σ' vs = L2.wipe σ vs := by
                        refine wipe_eq (hl'.trans (wipe_length _ _)) fun j c => ?_
                        rw [(hw' j fun q => c (hw j q)).2, wipe_out c]
                      refine ⟨ew, _, F2a, rho2, om', zg, Rg.reb, y4, z4, hmk, fun F3 rho3 H3 yv s3 p3 R3 r3 => ?_⟩
                      obtain ⟨f3, hD3⟩ := f2.through R3 fun i h => h
                      rw [hD2] at hD3
                      have R3b := Rg.back R3
                      refine ⟨_, F3, rho3, om', z4, R3b.reb, x5, z5, hmv, fun F4 rho4 H4 w s4 p4 R4 r4 => ?_⟩
                      obtain ⟨f4, hD4⟩ := f3.through R4 fun i h => h
                      rw [hD3] at hD4
                      have R4b := R3b.back R4
                      obtain ⟨b, eb, hb⟩ := keyT_ok (r3.of_pure (keyT_pure hky)) hky
                      have hb4 : H4 b = some (.tup (ky.map kV)) := R4.rh.fro _ _ (s4 _ _ hb)
                      have hzl : es.length < sizeLine := by
                        rw [Rk.length ra]
                        exact Nat.lt_of_lt_of_le (Nat.lt_of_le_of_lt hal (Nat.lt_of_lt_of_le hlt hc.1)) szl_line
                      refine ⟨es, ky, b, eb, hb4, hD4, hzl, ?_⟩
                      obtain ⟨R5, f5⟩ := R4b.mutFresh (o := .dT (putK es ky w)) f4
                      have R6 := R5.wipe hn
                      rw [ew] at R6
                      have ra4 := Rk.mono s4 p4 (Rk.mono s3 p3 ra)
                      have lp := putG_len acc ky x5
                      exact ⟨F4, rho4, _, putG acc ky x5, putK es ky w, s2a.trans (s3.trans s4), p3.trans p4, R6, f5, upd_same, Rk.put ky (r4.of_pure hp5) ra4, by omega, hl⟩
                · cases hl
        · cases hl
  · cases e2
section
variable {X : Cx} {Tb : Tbs} {kx vx tg iter : Expr} {scope : Scope} {own : List (Str × Nat)} {pos : Pos} {mi : M It} {g : G} {mk mv : M D}
theorem mn_dcT (vs : List Nat) (hc : X.calm = true) (hN : X.N.Nodup) (hu : X.A.units < cLine) (hi : PI X tg iter (Ti (Mi.kx X Tb) mi)) (ok : BlkOk X.N X.env.scope scope own) (hv : own.map (·.2) = vs)
    (hg : ∀ (s : Shared) (H : Hp) (C : Addr) (cl : List (Str × Addr)) (fp : List Addr), PG (X.blk s H scope (compEnvC scope cl C X.env) fp) tg (Tg (Mi.kx X Tb) g))
    (hk : ∀ (s : Shared) (H : Hp) (C : Addr) (cl : List (Str × Addr)) (fp : List Addr), PE (X.blk s H scope (compEnvC scope cl C X.env) fp) kx (Te (Mi.kx X Tb) mk))
    (he : ∀ (s : Shared) (H : Hp) (C : Addr) (cl : List (Str × Addr)) (fp : List Addr), PE (X.blk s H scope (compEnvC scope cl C X.env) fp) vx (Te (Mi.kx X Tb) mv)) (hw : ∀ w ∈ g.ws, w ∈ vs) (hs : ∀ x, foldedSetIterable iter X.env x = pure x := by intro _; rfl) :
    PE X (.DictComp kx vx [⟨tg, iter, [], 0⟩] scope pos) (Tn (Mi.kx X Tb) (N.compDT mi g vs mk mv)) := by
  subst hv
  exact pe_imp (pe_dcT hc hN hu hi ok hg hk he hs) (dcT_go hw)
/-- name = {..}, the name a local -/
theorem ps_setDcT {i : Nat} {y : Str} {py spos : Pos} {wi : TI} {gg : TG} {tk tv : TE} (hc : X.calm = true) (hN : X.N.Nodup) (hu : X.A.units < cLine) (hy : X.N[i]? = some y) (hyl : X.env.scope.names.lookup y = some .local)
    (sw : swapsWith (.DictComp kx vx [⟨tg, iter, [], 0⟩] scope pos) (some (.Name y py)) spos.line X.env = pure true) (src : PI X tg iter wi) (blk : BlkOk X.N X.env.scope scope own)
    (tgt : ∀ (s : Shared) (H : Hp) (C : Addr) (cl : List (Str × Addr)) (fp : List Addr), PG (X.blk s H scope (compEnvC scope cl C X.env) fp) tg gg)
    (key : ∀ (s : Shared) (H : Hp) (C : Addr) (cl : List (Str × Addr)) (fp : List Addr), PE (X.blk s H scope (compEnvC scope cl C X.env) fp) kx tk)
    (val : ∀ (s : Shared) (H : Hp) (C : Addr) (cl : List (Str × Addr)) (fp : List Addr), PE (X.blk s H scope (compEnvC scope cl C X.env) fp) vx tv)
    (fold : ∀ x, foldedSetIterable iter X.env x = pure x := by intro _; rfl) :
    PS X (.Assign [.Name y py] (.DictComp kx vx [⟨tg, iter, [], 0⟩] scope pos) spos) (tAsg (tDcT wi gg tk tv (own.map (·.2))) (gName i)) := by
  constructor
  intro pins s σ H Ed inv says
  rw [exec_Assign_Name_used _ _ _ _ sw]
  refine wpAny_bind (wpAny_standAt (wpAny_bind ?_))
  have says2 : tDcT wi gg tk tv (own.map (·.2)) σ H (fun x H1 => gName i x σ H1 Ed.nx) := says
  show wpAny _ X.A (do let _ ← comprehension (.DictComp kx vx [⟨tg, iter, [], 0⟩] scope pos) scope X.env (firstIterPos [⟨tg, iter, [], 0⟩] pos) newDict false (eval iter X.env) (some (assign (.Name y py) X.env))) _ _ s
  refine wpAny_bind (thn (dcT_core (Qf := fun _ s' => SP X pins Ed .next s') hc hN hu inv src blk tgt key val fold says2 fun L C s' m H' inv' q ns fpo => ?_) fun _ s' hq => wpAny_pure (wpAny_pure hq))
  show wpAny _ _ (assign (.Name y py) X.env (.ref L)) _ _ _
  obtain ⟨f0, f1, _, f3, f4, f5⟩ := fpo
  refine wpAny_assign_Name (store_ok2 (v := V.ref L) inv' hN hy (.inl hyl) rfl (fun s2 inv2 ⟨a, same, ha⟩ => ?_) (.inr hyl))
  have off : C ≠ a := by
    rcases ha with q | q
    · rw [q]; exact f1
    · intro e
      exact f4 y a q e.symm
  refine ⟨m, ns.sameBut same off, fun h3 same3 => ?_⟩
  exact ⟨_, H', inv2.turned (t' := s2.toks) (fun b o hb e => (same3.2 b hb).trans e) f0 f1 f3 f4 f5, q⟩
theorem sw_trueD {gs : List Comprehension} {env : Env} {y : Str} {py : Pos} {l : Nat} (hk : env.scope.kind = .function) (hy : env.scope.names.lookup y = some .local) (hl : (py.line == pos.line) = true)
    (ha : (scope.names.any fun (n, k) => n == y && (k == .local || k == .cell)) = false) : swapsWith (.DictComp kx vx gs scope pos) (some (.Name y py)) l env = pure true := by
  have ky : env.kindOf y = some .local := hy
  have kb : env.blockKind = .function := by unfold Env.blockKind; rw [hk]; rfl
  unfold swapsWith
  simp only [kb, ky, ha, hl, Expr.pos]
  rfl
theorem ms_ownDcT {i : Nat} {y : Str} {py spos : Pos} (vs : List Nat) (hc : X.calm = true) (hN : X.N.Nodup) (hu : X.A.units < cLine) (hy : X.N[i]? = some y) (hyl : X.env.scope.names.lookup y = some .local)
    (hsw : swapsWith (.DictComp kx vx [⟨tg, iter, [], 0⟩] scope pos) (some (.Name y py)) spos.line X.env = pure true) (hi : PI X tg iter (Ti (Mi.kx X Tb) mi)) (ok : BlkOk X.N X.env.scope scope own) (hv : own.map (·.2) = vs)
    (hg : ∀ (s : Shared) (H : Hp) (C : Addr) (cl : List (Str × Addr)) (fp : List Addr), PG (X.blk s H scope (compEnvC scope cl C X.env) fp) tg (Tg (Mi.kx X Tb) g))
    (hk : ∀ (s : Shared) (H : Hp) (C : Addr) (cl : List (Str × Addr)) (fp : List Addr), PE (X.blk s H scope (compEnvC scope cl C X.env) fp) kx (Te (Mi.kx X Tb) mk))
    (he : ∀ (s : Shared) (H : Hp) (C : Addr) (cl : List (Str × Addr)) (fp : List Addr), PE (X.blk s H scope (compEnvC scope cl C X.env) fp) vx (Te (Mi.kx X Tb) mv)) (hw : ∀ w ∈ g.ws, w ∈ vs) (hs : ∀ x, foldedSetIterable iter X.env x = pure x := by intro _; rfl) :
    PS X (.Assign [.Name y py] (.DictComp kx vx [⟨tg, iter, [], 0⟩] scope pos) spos) (Ts (Mi.kx X Tb) (C.ownN i (N.compDT mi g vs mk mv))) := by
  subst hv
  exact ps_imp (ps_setDcT hc hN hu hy hyl hsw hi ok hg hk he hs) (ownN_go (dcT_go hw))
end
end Mi

set_option Elab.async false
set_option linter.all false
set_option maxRecDepth 100000
set_option maxHeartbeats 4000000
/-! Mi, part De: two dicts with tuple keys that are equal. -/
namespace Mi
open PySem PySem.Spec PyProof.Rows L2
section
variable {prog : Program} {w : World} {κ : Type} [DecidableEq κ] {knd : HeapKind prog w κ} {A : Around} {E : Value → Shared → Prop} {s : Shared}
theorem same_dT {nm : String} {a b : Addr} {xa xb : List (κ × Addr × Value)} {Q : Bool → Shared → Prop} (room : knd.room A) (na : (a == sysModules) = false) (nb : (b == sysModules) = false)
    (da : s.heap.DictOfH knd a xa) (db : s.heap.DictOfH knd b xb) (len : xa.length = xb.length)
    (hits : ∀ x ∈ xa, (∃ (j : Nat) (p : Addr × Value), xb[j]? = some (x.1, p)) ∧ ∀ (j : Nat) (p : Addr × Value), xb[j]? = some (x.1, p) → SeqAt.EqP prog w A s x.2.2 p.2 true) (done : Q true s) :
    wpAny (model prog w) A (Builtin.Dict.samePairs nm a b) Q E s := by
  obtain ⟨o1, es, ep, got1, cls1, dat1, ent1, key1, nod1⟩ := da
  obtain ⟨o2, fs, fp, got2, cls2, dat2, ent2, key2, nod2⟩ := db
  have z1 := size_of_entries ent1
  have z2 := size_of_entries ent2
  have size : es.size = fs.size := by rw [z1, z2, len]
  unfold Builtin.Dict.samePairs Builtin.Dict.showsAll
  rw [if_neg (by rw [na]; exact Bool.false_ne_true), if_neg (by rw [nb]; exact Bool.false_ne_true)]
  refine wpAny_bind (wpAny_pure (wpAny_bind (wpAny_pure ?_)))
  refine wpAny_bind (wpAny_dictEntries got1 dat1 ?_)
  dsimp only
  refine wpAny_bind (wpAny_dictEntries got2 dat2 ?_)
  rw [if_neg (by rw [size]; simp)]
  refine wpAny_bind (wpAny_dictEpoch got1 dat1 ?_)
  refine wpAny_bind ?_
  rw [Std.Legacy.Range.forIn_eq_forIn_range']
  simp only [Std.Legacy.Range.size, Nat.sub_zero, Nat.add_sub_cancel, Nat.div_one]
  refine wpAny_forIn_list _ (fun left q t => t = s ∧ q = (none, ()) ∧ ∃ i, left = List.range' i (es.size - i) ∧ i ≤ es.size) _ ?_ ?_ _ _ ⟨rfl, rfl, 0, by simp, Nat.zero_le _⟩
  · rintro x left q t ⟨rfl, rfl, i, eqr, le⟩
    have lt : i < es.size := by
      apply Classical.byContradiction
      intro c
      rw [Nat.sub_eq_zero_of_le (Nat.le_of_not_lt c)] at eqr
      simp at eqr
    have split1 : es.size - i = (es.size - (i + 1)) + 1 := by omega
    rw [split1, List.range'_succ, List.cons.injEq] at eqr
    obtain ⟨rfl, eqr⟩ := eqr
    have ltx : x < xa.length := by rw [← z1]; exact lt
    have here : es[x] = entryOfKey knd xa[x] := by
      have q := entry_at ent1 x
      rw [Array.getElem?_eq_getElem lt, List.getElem?_eq_getElem ltx] at q
      exact Option.some.inj q
    obtain ⟨⟨j0, p0, hj0⟩, all⟩ := hits xa[x] (List.getElem_mem ltx)
    refine wpAny_bind (wpAny_dictEntries got1 dat1 ?_)
    rw [Array.getElem?_eq_getElem lt]
    show wpAny _ _ (holding [es[x].key, es[x].val] _ >>= _) _ _ _
    rw [here]
    have isKey := key1 xa[x] (List.getElem_mem ltx)
    refine wpAny_bind (wpAny_holding (wpAny_bind ?_))
    refine wpAny_dictFind_heap room isKey got2 dat2 ent2 key2 nod2 (fun no => absurd hj0 (no j0 p0)) fun j p hj => ?_
    have ltj : j < fs.size := by rw [z2]; exact (List.getElem?_eq_some_iff.mp hj).1
    have there : fs[j] = entryOfKey knd (xa[x].1, p) := by
      have q := entry_at ent2 j
      rw [Array.getElem?_eq_getElem ltj, hj] at q
      exact Option.some.inj q
    refine wpAny_bind (wpAny_dictEntries got2 dat2 ?_)
    rw [Array.getElem?_eq_getElem ltj]
    refine wpAny_holding ?_
    rw [there]
    refine all j p hj _ _ ?_
    show wpAny _ _ (if (!true) = true then _ else _) _ _ _
    rw [if_neg (by decide)]
    refine wpAny_bind (wpAny_dictEpoch got1 dat1 ?_)
    rw [if_neg (by simp)]
    exact wpAny_pure ⟨rfl, rfl, x + 1, eqr, lt⟩
  · rintro q t ⟨rfl, rfl, _⟩
    exact wpAny_pure done
theorem eq_dT {a b : Addr} {xa xb : List (κ × Addr × Value)} (room : knd.room A.in1) (na : (a == sysModules) = false) (nb : (b == sysModules) = false) (hu : A.units < cLine)
    (da : s.heap.DictOfH knd a xa) (db : s.heap.DictOfH knd b xb) (len : xa.length = xb.length)
    (hits : ∀ x ∈ xa, (∃ (j : Nat) (p : Addr × Value), xb[j]? = some (x.1, p)) ∧ ∀ (j : Nat) (p : Addr × Value), xb[j]? = some (x.1, p) → SeqAt.EqP prog w A.in1 s x.2.2 p.2 true) (E Q : Value → Shared → Prop) (done : Q (.bool true) s) :
    wpAny (model prog w) A (richCompare .Eq (.ref a) (.ref b)) Q E s := by
  refine wpAny_richCompare_same_room (op := .Eq) da.typeIs db.typeIs PySem.F.slot_dict_eq (wpAny_call_entry PySem.F.slot_dict_eq da.typeIs PySem.F.entry_dict_eq ?_ (PySem.F.args_dict_eq_2 _ _)) hu
  show wpAny _ _ (Builtin.Dict.dictSlotArgs "__eq__" ⟨[.ref a, .ref b], []⟩ >>= _) _ _ s
  unfold Builtin.Dict.dictSlotArgs
  refine wpAny_bind (wpAny_bind (wpAny_notOrdered_dict da.typeIs ?_))
  show wpAny _ _ (pure (Value.ref a, Value.ref b)) _ _ s
  refine wpAny_pure (wpAny_bind (wpAny_isInstance (T := "dict") db.typeIs PySem.F.sub_dict_dict ?_))
  simp only [Bool.not_true, Bool.false_eq_true, if_false]
  refine wpAny_bind (wpAny_pure (wpAny_bind (wpAny_pure ?_)))
  refine wpAny_bind (same_dT room na nb da db len hits ?_)
  exact wpAny_pure ⟨_, rfl, (fun x => nomatch x), by simpa using done⟩
theorem ne_dT {a b : Addr} {xa xb : List (κ × Addr × Value)} (room : knd.room A.in1) (na : (a == sysModules) = false) (nb : (b == sysModules) = false) (hu : A.units < cLine)
    (da : s.heap.DictOfH knd a xa) (db : s.heap.DictOfH knd b xb) (len : xa.length = xb.length)
    (hits : ∀ x ∈ xa, (∃ (j : Nat) (p : Addr × Value), xb[j]? = some (x.1, p)) ∧ ∀ (j : Nat) (p : Addr × Value), xb[j]? = some (x.1, p) → SeqAt.EqP prog w A.in1 s x.2.2 p.2 true) (E Q : Value → Shared → Prop) (done : Q (.bool false) s) :
    wpAny (model prog w) A (richCompare .NotEq (.ref a) (.ref b)) Q E s := by
  refine wpAny_richCompare_same_room (op := .NotEq) da.typeIs db.typeIs PySem.F.slot_dict_ne (wpAny_call_entry PySem.F.slot_dict_ne da.typeIs PySem.F.entry_dict_ne ?_ (PySem.F.args_dict_ne_2 _ _)) hu
  show wpAny _ _ (Builtin.Dict.dictSlotArgs "__ne__" ⟨[.ref a, .ref b], []⟩ >>= _) _ _ s
  unfold Builtin.Dict.dictSlotArgs
  refine wpAny_bind (wpAny_bind (wpAny_notOrdered_dict da.typeIs ?_))
  show wpAny _ _ (pure (Value.ref a, Value.ref b)) _ _ s
  refine wpAny_pure (wpAny_bind (wpAny_isInstance (T := "dict") db.typeIs PySem.F.sub_dict_dict ?_))
  simp only [Bool.not_true, Bool.false_eq_true, if_false]
  refine wpAny_bind (wpAny_pure (wpAny_bind (wpAny_pure ?_)))
  refine wpAny_bind (same_dT room na nb da db len hits ?_)
  exact wpAny_pure ⟨_, rfl, (fun x => nomatch x), by simpa using done⟩
end
section
theorem pair_at {α β : Type} {F : α → β → Prop} : ∀ {l : List α} {m : List β} {j : Nat} {x : β}, Paired F l m → m[j]? = some x → ∃ y, l[j]? = some y ∧ F y x
  | _, _, 0, x, .cons h _, e => by
    rw [List.getElem?_cons_zero, Option.some.injEq] at e
    subst e
    exact ⟨_, rfl, h⟩
  | _, _, j + 1, x, .cons _ t, e => by
    rw [List.getElem?_cons_succ] at e
    obtain ⟨y, e2, h2⟩ := pair_at t e
    exact ⟨y, by rw [List.getElem?_cons_succ]; exact e2, h2⟩
theorem dp_at {K : PySem.W.Frag} {H : Hp} : ∀ {vs : List V} {ps : List PyData} {j : Nat} {v : V}, DpAll K H vs ps → vs[j]? = some v → ∃ p, ps[j]? = some p ∧ Dp K H v p
  | _, _, 0, v, .cons h _, e => by
    rw [List.getElem?_cons_zero, Option.some.injEq] at e
    subst e
    exact ⟨_, rfl, h⟩
  | _, _, j + 1, v, .cons _ t, e => by
    rw [List.getElem?_cons_succ] at e
    obtain ⟨p, e2, h2⟩ := dp_at t e
    exact ⟨p, by rw [List.getElem?_cons_succ]; exact e2, h2⟩
def okP (p : PyData) : Bool := p.canLay0 && decide (p.depth ≤ 60)
def rEqT (K : PySem.W.Frag) (r : Bool) : R2 := fun x y H Q => ∃ (a b : Addr) (ks ls : List (List Key × V)) (ps : List PyData), x = .ref a ∧ y = .ref b ∧ Rd H a (.dT ks) ∧ Rd H b (.dT ls) ∧ ks.map Prod.fst = ls.map Prod.fst ∧
  DpAll K H (ks.map Prod.snd) ps ∧ DpAll K H (ls.map Prod.snd) ps ∧ ps.all okP = true ∧ Q (.bl r) H
variable {X : Cx}
theorem hits_dT {pins : List (Addr × Obj)} {σ : L2.St} {H : Hp} {s : Shared} (inv : Inv X pins σ H s) {A : Around} (hu : A.units + 60 < cLine) {ks ls : List (List Key × V)} {ps : List PyData} {xa xb : List (List Key × Addr × Value)} (pa : KT H ks xa) (pb : KT H ls xb)
    (nod : (xb.map (·.1)).Nodup) (keys : ks.map Prod.fst = ls.map Prod.fst) (d1 : DpAll X.K H (ks.map Prod.snd) ps) (d2 : DpAll X.K H (ls.map Prod.snd) ps) (sh : ps.all okP = true) :
    ∀ x ∈ xa, (∃ (j : Nat) (p : Addr × Value), xb[j]? = some (x.1, p)) ∧ ∀ (j : Nat) (p : Addr × Value), xb[j]? = some (x.1, p) → SeqAt.EqP X.prog X.w A s x.2.2 p.2 true := by
  intro x hx
  obtain ⟨i, hi⟩ := List.getElem?_of_mem hx
  obtain ⟨k, hk, rk⟩ := pair_at pa hi
  have len : ls.length = xb.length := Paired.length pb
  have kl := congrArg (fun l => l[i]?) keys
  simp only [List.getElem?_map, hk, Option.map_some] at kl
  cases hl : ls[i]? with
  | none => rw [hl] at kl; cases kl
  | some l =>
    rw [hl, Option.map_some, Option.some.injEq] at kl
    have lt : i < xb.length := by rw [← len]; exact (List.getElem?_eq_some_iff.mp hl).1
    have hb : xb[i]? = some xb[i] := List.getElem?_eq_getElem lt
    obtain ⟨l2, hl2, rl⟩ := pair_at pb hb
    rw [hl, Option.some.injEq] at hl2
    subst hl2
    have ex : xb[i].1 = x.1 := by rw [← rl.1, ← kl, rk.1]
    refine ⟨⟨i, xb[i].2, by rw [hb, ← ex]⟩, fun j p hj => ?_⟩
    have hji : j = i := by
      have lj : j < xb.length := (List.getElem?_eq_some_iff.mp hj).1
      have e1 : (xb.map (·.1))[j]'(by rw [List.length_map]; exact lj) = (xb.map (·.1))[i]'(by rw [List.length_map]; exact lt) := by
        rw [List.getElem_map, List.getElem_map, ex, (List.getElem?_eq_some_iff.mp hj).2]
      have pw := List.pairwise_iff_getElem.mp nod
      rcases (by omega : j < i ∨ j = i ∨ i < j) with c | c | c
      · exact absurd e1 (pw j i (by rw [List.length_map]; exact lj) (by rw [List.length_map]; exact lt) c)
      · exact c
      · exact absurd e1.symm (pw i j (by rw [List.length_map]; exact lt) (by rw [List.length_map]; exact lj) c)
    subst hji
    rw [hb, Option.some.injEq] at hj
    rw [← show xb[j].2.2 = p.2 by rw [hj]]
    obtain ⟨p1, hp1, q1⟩ := dp_at d1 (j := j) (v := k.2) (by rw [List.getElem?_map, hk]; rfl)
    obtain ⟨p2, hp2, q2⟩ := dp_at d2 (j := j) (v := l.2) (by rw [List.getElem?_map, hl]; rfl)
    rw [hp1, Option.some.injEq] at hp2
    subst hp2
    have ok := List.all_eq_true.mp sh p1 (List.mem_of_getElem? hp1)
    unfold okP at ok
    rw [Bool.and_eq_true, decide_eq_true_eq] at ok
    obtain ⟨as, r1⟩ := Dp.reads inv p1 k.2 x.2.2 q1 rk.2.2
    obtain ⟨bs, r2⟩ := Dp.reads inv p1 l.2 xb[j].2.2 q2 rl.2.2
    have e := SeqAt.eqAt_reads p1 p1 A s _ _ as bs r1 r2 ok.1 ok.1 (by rw [Nat.min_self]; omega)
    rw [SeqAt.eqv_refl _ ok.1] at e
    exact e.eqP
theorem op_eqT (hu : X.A.units + 64 < cLine) : OpR X (compareOp .Eq) (rEqT X.K true) := by
  intro pins s σ H x y v u Q inv rx ry h
  obtain ⟨a, b, ks, ls, ps, rfl, rfl, ra, rb, keys, d1, d2, sh, q⟩ := h
  obtain rfl : v = Value.ref a := rx
  obtain rfl : u = Value.ref b := ry
  obtain ⟨_, na, xa, pa, da⟩ := dt_rd inv.hok ra
  obtain ⟨_, nb, xb, pb, db⟩ := dt_rd inv.hok rb
  have nod := db.elim fun o q => q.elim fun es q => q.elim fun ep q => q.2.2.2.2.2
  have len : xa.length = xb.length := by rw [← Paired.length pa, ← Paired.length pb, ← List.length_map (f := Prod.fst) (as := ks), keys, List.length_map]
  exact eq_dT (knd := tupleKind (mixKind X.prog X.w)) (tupleKind_room_in1 (by omega)) na nb (by omega) da db len (hits_dT inv (by show X.A.units + 1 + 60 < cLine; omega) pa pb nod keys d1 d2 sh) _ _ (fin_bl inv q rfl)
theorem op_neT (hu : X.A.units + 64 < cLine) : OpR X (compareOp .NotEq) (rEqT X.K false) := by
  intro pins s σ H x y v u Q inv rx ry h
  obtain ⟨a, b, ks, ls, ps, rfl, rfl, ra, rb, keys, d1, d2, sh, q⟩ := h
  obtain rfl : v = Value.ref a := rx
  obtain rfl : u = Value.ref b := ry
  obtain ⟨_, na, xa, pa, da⟩ := dt_rd inv.hok ra
  obtain ⟨_, nb, xb, pb, db⟩ := dt_rd inv.hok rb
  have nod := db.elim fun o q => q.elim fun es q => q.elim fun ep q => q.2.2.2.2.2
  have len : xa.length = xb.length := by rw [← Paired.length pa, ← Paired.length pb, ← List.length_map (f := Prod.fst) (as := ks), keys, List.length_map]
  exact ne_dT (knd := tupleKind (mixKind X.prog X.w)) (tupleKind_room_in1 (by omega)) na nb (by omega) da db len (hits_dT inv (by show X.A.units + 1 + 60 < cLine; omega) pa pb nod keys d1 d2 sh) _ _ (fin_bl inv q rfl)
open Classical in
/-- two dicts with tuple keys, the same keys in the same order, their values equal data -/
noncomputable def O.eqT (r : Bool) (x y : D) (z : Z) : Option D := match dcont x z, dcont y z with
  | some (.dt ks), some (.dt ls) => if ks.map Prod.fst = ls.map Prod.fst then match O.toPs (ks.map Prod.snd), O.toPs (ls.map Prod.snd) with
    | some ps, some qs => if ps = qs ∧ ps.all okP = true then some (.bl r) else none
    | _, _ => none
    else none
  | _, _ => none
theorem eqT_ok {K : Kx} {r : Bool} : OpV K (rEqT K.k r) (O.eqT r) := by
  intro B F rho om z σ H x y xv yv d R rx ry e Q k
  unfold O.eqT at e
  split at e
  · rename_i ks ls hx hy
    obtain ⟨a, rfl, ⟨_, _, e1, _⟩ | ⟨k1, es1, e1, h1, r1⟩⟩ := dcont_ok R rx hx
    · cases e1
    cases e1
    obtain ⟨b, rfl, ⟨_, _, e2, _⟩ | ⟨k2, es2, e2, h2, r2⟩⟩ := dcont_ok R ry hy
    · cases e2
    cases e2
    split at e
    · rename_i keys
      split at e
      · rename_i ps qs p1 p2
        split at e
        · rename_i c
          obtain ⟨rfl, sh⟩ := c
          cases e
          exact ⟨a, b, es1, es2, ps, rfl, rfl, h1, h2, by rw [r1.1, r2.1, keys], toPs_ok R.rh.fro p1 r1.2, toPs_ok R.rh.fro p2 r2.2, sh, k F H _ (Same.refl F) R (.pure (.bl _))⟩
        · cases e
      · cases e
    · cases e
  · cases e
theorem o_eqT (hu : X.A.units + 64 < cLine) : OpM X (compareOp .Eq) (O.eqT true) := ⟨_, op_eqT hu, fun _ => eqT_ok⟩
theorem o_neT (hu : X.A.units + 64 < cLine) : OpM X (compareOp .NotEq) (O.eqT false) := ⟨_, op_neT hu, fun _ => eqT_ok⟩
end
end Mi

set_option Elab.async false
set_option linter.all false
set_option maxRecDepth 100000
set_option maxHeartbeats 400000
/-! Mi, part Df: repr of a dict with tuple keys. -/
namespace Mi
open PySem PySem.Spec PyProof.Rows L2
theorem shows_dict {prog : Program} {w : World} {h : Heap} {a : Addr} {o : Obj} {es : Array DictEntry} {n : Nat} {kvs : List (PyData × PyData)} {as bs : List Addr} (g1 : h.get? a = some o) (g2 : o.cls = .type "dict") (g3 : o.data = .dict es n)
    (rk : ReadsAll h (es.toList.map (·.key)) (kvs.map (·.1)) as) (rv : ReadsAll h (es.toList.map (·.val)) (kvs.map (·.2)) bs) (na : (a == sysModules) = false) (sh : (PyData.dict kvs).showable = true)
    (nk : PyData.hasDictAll (kvs.map (·.1)) = false) (nv : PyData.hasDictAll (kvs.map (·.2)) = false) (fit : (PyData.dict kvs).shown.length ≤ sizeLine) : ShowsBy prog w h a (.dict kvs) "dict" "dict.__repr__" := by
  have fit2 : (dictText (PyData.shownKv kvs)).length ≤ sizeLine := by simpa only [PyData.shown] using fit
  obtain ⟨sk, sv⟩ := PyData.showableKv_split kvs (by simpa [PyData.showable] using sh)
  obtain ⟨b1, m1, k1⟩ := ReprAllK.of_readsAll (prog := prog) (w := w) rk sk (fun q => by rw [nk] at q; cases q) (fun t ht => by
    obtain ⟨p, hp, hl⟩ := PyData.shownKv_key_le kvs t ht
    exact Nat.le_trans hl (Nat.le_trans (dictText_mem_le hp) fit2))
  obtain ⟨b2, m2, k2⟩ := ReprAllK.of_readsAll (prog := prog) (w := w) rv sv (fun q => by rw [nv] at q; cases q) (fun t ht => by
    obtain ⟨p, hp, hl⟩ := PyData.shownKv_val_le kvs t ht
    exact Nat.le_trans hl (Nat.le_trans (dictText_mem_le hp) fit2))
  have most : ReadAtMost h (PyData.depthKv kvs) (b1 ++ b2) := (m1.mono (PyData.depthAll_keys_le kvs)).append (m2.mono (PyData.depthAll_vals_le kvs))
  have off : a ∉ b1 ++ b2 := not_mem_of_deeper (.dict g1 g2 g3 rk rv) (by simp only [PyData.depth]; omega) most
  refine ⟨F.slot_dict_repr, F.slot_dict_str, F.slot_dict_format, fun s keep => ⟨o, keep _ _ g1, g2⟩, fun A E s Q hg hu keep hQ => ?_⟩
  simp only [PyData.depth] at hu
  simp only [PyData.shown, PyData.shownKv_eq] at hQ
  refine call_dict_reprK g1 g2 g3 na off (ReprEntriesK.of_two es.toList _ _ (k1.more_le (fun b hb => List.mem_append_left _ hb) (PyData.depthAll_keys_le kvs)) (k2.more_le (fun b hb => List.mem_append_right _ hb) (PyData.depthAll_vals_le kvs))) hg (fun b _ => Clear.nil b) hu keep hQ ?_
  rw [← PyData.shownKv_eq]
  exact fit2
/-- the text of a dict with tuple keys, of its keys and the data of its values -/
def keyP (k : List Key) : PyData := .tuple (k.map fun x => pk (dkey x))
def dictK (ks : List (List Key)) (ps : List PyData) : List (PyData × PyData) := (ks.map keyP).zip ps
theorem dictK_fst {ks : List (List Key)} {ps : List PyData} (h : ks.length = ps.length) : (dictK ks ps).map (·.1) = ks.map keyP := List.map_fst_zip (by rw [List.length_map, h]; exact Nat.le_refl _)
theorem dictK_snd {ks : List (List Key)} {ps : List PyData} (h : ks.length = ps.length) : (dictK ks ps).map (·.2) = ps := List.map_snd_zip (by rw [List.length_map, h]; exact Nat.le_refl _)
def dictP (ks : List (List Key)) (ps : List PyData) : PyData := .dict (dictK ks ps)
def rprOkT (p : PyData) (ps : List PyData) : Bool := p.showable && !PyData.hasDictAll ps && decide (p.depth ≤ 40)
section
variable {X : Cx}
theorem keys_noDict : ∀ (ks : List (List Key)), PyData.hasDictAll (ks.map keyP) = false
  | [] => rfl
  | k :: ks => by
    have one : ∀ l : List Key, PyData.hasDictAll (l.map fun x => pk (dkey x)) = false := by
      intro l
      induction l with
      | nil => rfl
      | cons x l ih =>
        rw [List.map_cons, PyData.hasDictAll, ih, Bool.or_false]
        cases x <;> rfl
    rw [List.map_cons, PyData.hasDictAll, keys_noDict ks, Bool.or_false]
    unfold keyP
    rw [PyData.hasDict, one]
theorem dp_keyTs {K : PySem.W.Frag} {H : Hp} : ∀ {es : List (List Key × V)} {xs : List (List Key × Addr × Value)}, KT H es xs → DpAll K H (xs.map fun x => V.ref x.2.1) ((es.map Prod.fst).map keyP)
  | _, _, .nil => .nil
  | _, _, .cons h t => .cons (.tup (SqT.of h.2.1) (dp_keys _)) (dp_keyTs t)
def rRprT (K : PySem.W.Frag) : List V → Hp → VK → Prop := fun vs H Q => ∃ (a : Addr) (es : List (List Key × V)) (ps : List PyData), vs = [V.ref a] ∧ Rd H a (.dT es) ∧ DpAll K H (es.map Prod.snd) ps ∧ rprOkT (dictP (es.map Prod.fst) ps) ps = true ∧ (dictP (es.map Prod.fst) ps).shown.length ≤ sizeLine ∧ Q (.str (dictP (es.map Prod.fst) ps).shown) H
theorem dpAll_len {K : PySem.W.Frag} {H : Hp} : ∀ {vs : List V} {ps : List PyData}, DpAll K H vs ps → vs.length = ps.length
  | _, _, .nil => rfl
  | _, _, .cons _ t => congrArg (· + 1) (dpAll_len t)
theorem vals_keys : ∀ (xs : List (List Key × Addr × Value)), Vals (xs.map fun x => V.ref x.2.1) (xs.map fun x => Value.ref x.2.1)
  | [] => .nil
  | _ :: xs => .cons rfl (vals_keys xs)
theorem vals_vals {H : Hp} : ∀ {es : List (List Key × V)} {xs : List (List Key × Addr × Value)}, KT H es xs → Vals (es.map Prod.snd) (xs.map fun x => x.2.2)
  | _, _, .nil => .nil
  | _, _, .cons h t => .cons h.2.2 (vals_vals t)
theorem call_rprT (hu : X.A.units + 64 < cLine) (gA : X.A.guards = some []) : CallR X (.builtin "repr") (rRprT X.K) := by
  intro pins s σ H vs us Q inv rr hyp
  obtain ⟨a, es, ps, rfl, rd, dp, ok, fit, q⟩ := hyp
  obtain ⟨u, rfl, ru⟩ := vals1 rr
  obtain rfl : u = Value.ref a := ru
  obtain ⟨_, na, xs, pr, o, ent, ep, got, ex, dat, eqs, _, _⟩ := dt_rd inv.hok rd
  have len : (es.map Prod.fst).length = ps.length := by
    have := dpAll_len dp
    rw [List.length_map] at this ⊢
    exact this
  have ek : ent.toList.map (·.key) = xs.map fun x => Value.ref x.2.1 := by rw [eqs, List.map_map]; rfl
  have ev : ent.toList.map (·.val) = xs.map fun x => x.2.2 := by rw [eqs, List.map_map]; rfl
  obtain ⟨as, rk⟩ := Dp.readsAll inv _ _ _ (dp_keyTs pr) (vals_keys xs)
  obtain ⟨bs, rv⟩ := Dp.readsAll inv _ _ _ dp (vals_vals pr)
  rw [← ek, ← dictK_fst len] at rk
  rw [← ev] at rv
  have rv2 : ReadsAll s.heap (ent.toList.map (·.val)) ((dictK (es.map Prod.fst) ps).map (·.2)) bs := by rw [dictK_snd len]; exact rv
  unfold rprOkT at ok
  rw [Bool.and_eq_true, Bool.and_eq_true, decide_eq_true_eq] at ok
  obtain ⟨⟨sh, nd⟩, dep⟩ := ok
  have nk : PyData.hasDictAll ((dictK (es.map Prod.fst) ps).map (·.1)) = false := by rw [dictK_fst len]; exact keys_noDict _
  have nv : PyData.hasDictAll ((dictK (es.map Prod.fst) ps).map (·.2)) = false := by rw [dictK_snd len]; simpa using nd
  unfold dictP at sh fit dep q
  generalize dictK (es.map Prod.fst) ps = kvs at *
  have shows := shows_dict (prog := X.prog) (w := X.w) got ex.1 dat rk rv2 na sh nk nv fit
  refine call_repr_slot (by omega) (shows.typeIs s fun _ _ z => z) shows.slotRepr (shows.call X.A.in1 _ s _ gA (by show X.A.units + 1 + (PyData.dict kvs).depth < cLine; omega) (fun _ _ z => z) fun h2 t tk keep => ⟨_, _, rfl, ?_⟩)
  exact ⟨.str _, H, inv.kept keep, ⟨t, rfl⟩, q⟩
def F.reprT : List D → Z → Option D
  | [x], z => match dcont x z with
    | some (.dt ks) => match O.toPs (ks.map Prod.snd) with
      | some ps => if rprOkT (dictP (ks.map Prod.fst) ps) ps = true ∧ (dictP (ks.map Prod.fst) ps).shown.length ≤ sizeLine then some (.str (dictP (ks.map Prod.fst) ps).shown) else none
      | none => none
    | _ => none
  | _, _ => none
theorem f_reprT (hu : X.A.units + 64 < cLine) (gA : X.A.guards = some []) : CallM X (.builtin "repr") F.reprT := by
  refine ⟨_, call_rprT hu gA, ?_⟩
  intro Tb B F rho om z σ H xs vs d R r e Q k
  unfold Mi.F.reprT at e
  split at e
  · obtain ⟨v, rfl, rv⟩ := rvs1 r
    split at e
    · rename_i ks hx
      obtain ⟨a, rfl, ⟨_, _, e1, _⟩ | ⟨k1, es, e1, rd, r1⟩⟩ := dcont_ok R rv hx
      · cases e1
      cases e1
      split at e
      · rename_i ps hp
        split at e
        · rename_i c
          cases e
          refine ⟨a, es, ps, rfl, rd, toPs_ok R.rh.fro hp r1.2, by rw [r1.1]; exact c.1, by rw [r1.1]; exact c.2, ?_⟩
          rw [r1.1]
          exact k F H _ (Same.refl F) R (.pure (.str _))
        · cases e
      · cases e
    · cases e
  · cases e
end
end Mi

set_option Elab.async false
set_option linter.all false
set_option maxRecDepth 100000
set_option maxHeartbeats 1000000
/-! Mi, part Dg: plain rules for dicts: sorted keys, comprehension, ==, repr; n in a list of ints. -/
namespace Mi
open PySem L2
section
variable {α β γ σ ρ κ : Type} {o : Option α} {m a b c : M D} {rest : C} {x y w cc : D} {z z1 z2 z3 : Z} {s s' : List Sl} {h : List D} {Φ : α → Fl → Z → Prop}
/-! ### things sorted by themselves: tuples of ints -/
theorem dataLe_pk {e : α → D} (k : α → List Int) (hk : ∀ x, pk (e x) = .tuple ((k x).map PyData.int)) (a b : α) : PySem.W.dataLe false pk (e a) (e b) = decide (k a ≤ k b) := by
  rw [PySem.W.dataLe_eq]
  show (!PySem.W.dataLt (pk (e b)) (pk (e a))) = _
  rw [hk, hk, PySem.W.dataLt_tuple]
  have h := PySem.W.dataLt_ints (k b) (k a)
  unfold PySem.W.rowLt at h
  rw [h, Bool.eq_iff_iff]
  simp [List.not_lt]
theorem srtOk_rows {e : α → D} (k : α → List Int) (hk : ∀ x, pk (e x) = .tuple ((k x).map PyData.int)) (hn : ∀ x, k x ≠ []) (xs : List α) : srtOk ((xs.map e).map pk) = true := by
  have ex : ∀ p ∈ (xs.map e).map pk, ∃ x, p = PyData.tuple ((k x).map PyData.int) := fun p hp => by
    obtain ⟨d, hd, rfl⟩ := List.mem_map.mp hp
    obtain ⟨x, _, rfl⟩ := List.mem_map.mp hd
    exact ⟨x, hk x⟩
  have dep : ∀ l : List Int, PyData.depthAll (l.map PyData.int) ≤ 1 := by
    intro l
    induction l with
    | nil => simp [PyData.depthAll]
    | cons i l ih => simp only [List.map_cons, PyData.depthAll, PyData.depth]; omega
  unfold srtOk alikeB sortB
  rw [Bool.and_eq_true, Bool.and_eq_true]
  refine ⟨⟨List.all_eq_true.mpr fun p hp => List.all_eq_true.mpr fun q hq => ?_, ?_⟩, List.all_eq_true.mpr fun p hp => ?_⟩
  · obtain ⟨i, rfl⟩ := ex p hp
    obtain ⟨j, rfl⟩ := ex q hq
    simp only [PySem.W.alike]
    exact PySem.W.alike_ints _ _
  · rw [Bool.or_eq_true]
    refine .inl (List.all_eq_true.mpr fun p hp => ?_)
    obtain ⟨i, rfl⟩ := ex p hp
    have := hn i
    cases hi : k i with
    | nil => exact absurd hi this
    | cons n ns => rfl
  · obtain ⟨i, rfl⟩ := ex p hp
    have := dep (k i)
    rw [decide_eq_true_eq]
    simp only [PyData.depth]
    omega
theorem srt_map {e : α → D} (k : α → List Int) (hk : ∀ x, pk (e x) = .tuple ((k x).map PyData.int)) (xs : List α) : srt pk (xs.map e) = (xs.mergeSort fun a b => decide (k a ≤ k b)).map e := by
  unfold srt
  rw [← PySem.W.sort_maps (r := fun a b => decide (k a ≤ k b)) e fun a _ b _ => (dataLe_pk k hk a b).symm]
/-- sorted(d) -/
theorem ev_sortedDP {e : κ → D} {ks ys : List κ} (k : κ → List Int) (h1 : a z = some (x, z1)) (h2 : dkeys x = some (ks.map e)) (hk : ∀ x, pk (e x) = .tuple ((k x).map PyData.int)) (hn : ∀ x, k x ≠ []) (hy : (if ks.length ≤ szl then some (ks.mergeSort fun a b => decide (k a ≤ k b)) else none) = some ys) : N.sortedD a z = some (ys.map e, z1) := by
  split at hy
  · rename_i hl
    cases hy
    rw [ev_sortedD h1 h2 (by rw [List.length_map]; exact hl) (srtOk_rows k hk hn ks), srt_map k hk]
  · cases hy
theorem dk_keys {Y : TEnc κ} {e : α → D} {f : κ → D} {kvs : List (κ × α)} (hf : ∀ k, .tup ((Y.k k).map dkey) = f k) : dkeys (eT Y e kvs) = some ((kvs.map Prod.fst).map f) := by
  unfold dkeys
  dsimp only
  rw [List.map_map, List.map_map]
  congr 1
  apply List.map_congr_left
  intro kv _
  exact hf kv.1
/-! ### n in xs -/
theorem ev_inL {i : Int} {xs : List Int} {t : Bool} (h1 : a z = some (.int i, z1)) (h2 : b z1 = some (y, z2)) (h3 : cont y z2 = some (t, xs.map eI)) : E.op O.isIn a b z = some (.bl (xs.any fun j => decide (j = i)), z2) := by
  refine ev_op h1 h2 ?_
  unfold O.isIn
  rw [h3]
  dsimp only
  rw [if_pos ⟨rfl, by rw [List.all_map]; exact List.all_eq_true.mpr fun _ _ => rfl⟩, List.any_map]
  congr 2
theorem ev_notInL {i : Int} {xs : List Int} {t : Bool} (h1 : a z = some (.int i, z1)) (h2 : b z1 = some (y, z2)) (h3 : cont y z2 = some (t, xs.map eI)) : E.op O.notIn a b z = some (.bl (!xs.any fun j => decide (j = i)), z2) := by
  refine ev_op h1 h2 ?_
  unfold O.notIn
  rw [h3]
  dsimp only
  rw [if_pos ⟨rfl, by rw [List.all_map]; exact List.all_eq_true.mpr fun _ _ => rfl⟩, List.any_map]
  congr 3
/-! ### a dict comprehension -/
namespace Pl
variable [DecidableEq κ]
def compDT (f : α → Option κ) (g : α → Option β) : List α → List (κ × β) → Option (List (κ × β))
  | [], acc => some acc
  | x :: xs, acc => (f x).bind fun k => (g x).bind fun v => compDT f g xs (putG acc k v)
def compD (f : α → Option κ) (g : α → Option β) (xs : List α) : Option (List (κ × β)) := if xs.length ≤ szl then compDT f g xs [] else none
end Pl
theorem dcmp_loop [DecidableEq κ] {it : It} {g : G} {vs : List Nat} {mk mv : M D} {f : α → Option κ} {gv : α → Option β} (Y : TEnc κ) (e : α → D) (e' : β → D) (ok : it.ok ⟨s', h⟩ = true)
    (step : ∀ x, ∃ za, g.run (e x) ⟨s', h⟩ = some za ∧ ∀ k, f x = some k → ∃ d sa, mk za = some (d, ⟨sa, h⟩) ∧ keyT d = some (Y.k k) ∧ ∀ v, gv x = some v → ∃ sb, mv ⟨sa, h⟩ = some (e' v, ⟨sb, h⟩) ∧ isPure (e' v) = true ∧ N.wipe sb vs = s') :
    ∀ (xs : List α) (acc r : List (κ × β)), Pl.compDT f gv xs acc = some r → N.loopDT it g vs mk mv (xs.map e) (acc.map fun kv => (Y.k kv.1, e' kv.2)) ⟨s', h⟩ = some (r.map fun kv => (Y.k kv.1, e' kv.2), ⟨s', h⟩)
  | [], acc, r, q => by
    cases q
    rw [List.map_nil, N.loopDT, if_pos ok]
  | x :: xs, acc, r, q => by
    obtain ⟨za, g1, f1⟩ := step x
    obtain ⟨k, q1, q2⟩ := bI (show (f x).bind _ = some r from q)
    obtain ⟨v, q3, q4⟩ := bI q2
    obtain ⟨d, sa, m1, hk, f2⟩ := f1 k q1
    obtain ⟨sb, m2, hp, hw⟩ := f2 v q3
    have ih := dcmp_loop Y e e' ok step xs _ _ q4
    rw [← putG_map Y.inj] at ih
    rw [List.map_cons, N.loopDT, if_pos ok, g1]
    dsimp only
    rw [m1]
    dsimp only
    rw [m2]
    dsimp only
    rw [if_pos hp, hk, hw]
    exact ih
theorem ev_dcmp [DecidableEq κ] {mi : M It} {chk : Option D} {g : G} {vs : List Nat} {mk mv : M D} {f : α → Option κ} {gv : α → Option β} {xs : List α} {r : List (κ × β)} (Y : TEnc κ) (e : α → D) (e' : β → D) (hm : mi z = some (⟨xs.map e, chk⟩, ⟨s, h⟩)) (ho : (vs.all fun v => !N.isOwn s[v]?) = true) (hw : N.wipe s vs = s')
    (ok : (⟨xs.map e, chk⟩ : It).ok ⟨s', h⟩ = true) {s2 : List Sl} (hr : N.rest s s' vs = s2)
    (step : ∀ x, ∃ za, g.run (e x) ⟨s', h⟩ = some za ∧ ∀ k, f x = some k → ∃ d sa, mk za = some (d, ⟨sa, h⟩) ∧ keyT d = some (Y.k k) ∧ ∀ v, gv x = some v → ∃ sb, mv ⟨sa, h⟩ = some (e' v, ⟨sb, h⟩) ∧ isPure (e' v) = true ∧ N.wipe sb vs = s')
    (q : Pl.compD f gv xs = some r) : N.compDT mi g vs mk mv z = some (eT Y e' r, ⟨s2, h⟩) := by
  unfold Pl.compD at q
  split at q
  · rename_i hl
    have k := dcmp_loop Y e e' ok step xs [] r q
    subst hw hr
    unfold N.compDT
    rw [bnd_of hm]
    dsimp only
    rw [if_pos ⟨by rw [List.length_map]; exact hl, ho⟩]
    rw [List.map_nil] at k
    rw [k]
  · cases q
/-! ### ==, repr -/
/-- the data of a value, as PyData of a depth -/
def Dat (e : β → D) (n : Nat) : Prop := ∀ v, ∃ p, O.toP (e v) = some p ∧ p.canLay0 = true ∧ p.depth ≤ n
theorem dat_all {e : β → D} {n : Nat} (hd : Dat e n) : ∀ vs : List β, ∃ ps, O.toPs (vs.map e) = some ps ∧ (∀ p ∈ ps, p.canLay0 = true ∧ p.depth ≤ n)
  | [] => ⟨[], rfl, fun _ h => nomatch h⟩
  | v :: vs => by
    obtain ⟨p, h1, h2, h3⟩ := hd v
    obtain ⟨ps, g1, g2⟩ := dat_all hd vs
    refine ⟨p :: ps, by rw [List.map_cons, O.toPs, h1, g1], fun q hq => ?_⟩
    rcases List.mem_cons.mp hq with rfl | hq
    · exact ⟨h2, h3⟩
    · exact g2 q hq
namespace Pl
open Classical in
/-- two dicts that are the same; else not told -/
noncomputable def sameD (b : Bool) (kvs kws : List (κ × β)) : Option Bool := if kvs = kws then some b else none
end Pl
theorem ev_sameD {op : D → D → Z → Option D} {b' r : Bool} {Y : TEnc κ} {e : β → D} {n : Nat} {kvs kws : List (κ × β)} (hop : op = O.eqT b') (h1 : a z = some (x, z1)) (h2 : b z1 = some (y, z2)) (h3 : dcont x z2 = some (eT Y e kvs)) (h4 : dcont y z2 = some (eT Y e kws)) (hd : Dat e n) (hn : n ≤ 60) (hr : Pl.sameD b' kvs kws = some r) : E.op op a b z = some (.bl r, z2) := by
  subst hop
  unfold Pl.sameD at hr
  split at hr
  · rename_i c
    subst c
    cases hr
    obtain ⟨ps, g1, g2⟩ := dat_all hd (kvs.map Prod.snd)
    refine ev_op h1 h2 ?_
    have e1 : (kvs.map fun kv => (Y.k kv.1, e kv.2)).map Prod.snd = (kvs.map Prod.snd).map e := by rw [List.map_map, List.map_map]; rfl
    unfold O.eqT
    rw [h3, h4]
    dsimp only
    rw [if_pos rfl, e1, g1]
    dsimp only
    rw [if_pos ⟨rfl, List.all_eq_true.mpr fun p hp => by
      obtain ⟨q1, q2⟩ := g2 p hp
      unfold okP
      rw [q1, decide_eq_true (by omega)]
      rfl⟩]
  · cases hr
theorem Dat.I : Dat eI 1 := fun v => ⟨.int v, rfl, rfl, by simp [PyData.depth]⟩
theorem Dat.L {e : β → D} {n : Nat} (hd : Dat e n) : Dat (eL e) (n + 1) := fun vs => by
  obtain ⟨ps, h1, h2⟩ := dat_all hd vs
  refine ⟨.list ps, by show O.toP (.lst (vs.map e)) = _; rw [O.toP, h1]; rfl, ?_, ?_⟩
  · have : ∀ qs : List PyData, (∀ p ∈ qs, p.canLay0 = true ∧ p.depth ≤ n) → PyData.canLayAll0 qs = true := by
      intro qs
      induction qs with
      | nil => intro _; rfl
      | cons q qs ih => intro h; simp only [PyData.canLayAll0]; rw [(h q List.mem_cons_self).1, ih fun p hp => h p (List.mem_cons_of_mem _ hp)]; rfl
    simp only [PyData.canLay0]
    exact this ps h2
  · have : ∀ qs : List PyData, (∀ p ∈ qs, p.canLay0 = true ∧ p.depth ≤ n) → PyData.depthAll qs ≤ n := by
      intro qs
      induction qs with
      | nil => intro _; simp [PyData.depthAll]
      | cons q qs ih =>
        intro h
        have h1 := (h q List.mem_cons_self).2
        have h2 := ih fun p hp => h p (List.mem_cons_of_mem _ hp)
        simp only [PyData.depthAll]
        omega
    have := this ps h2
    simp only [PyData.depth]
    omega
namespace Pl
def reprT (Y : TEnc κ) (e : β → D) (kvs : List (κ × β)) : Option Str := match O.toPs ((kvs.map Prod.snd).map e) with
  | some ps => if rprOkT (dictP (kvs.map fun kv => Y.k kv.1) ps) ps = true ∧ (dictP (kvs.map fun kv => Y.k kv.1) ps).shown.length ≤ sizeLine then some (dictP (kvs.map fun kv => Y.k kv.1) ps).shown else none
  | none => none
end Pl
theorem ev_reprT {Y : TEnc κ} {e : β → D} {kvs : List (κ × β)} {r : Str} (h1 : a z = some (x, z1)) (hc : dcont x z1 = some (eT Y e kvs)) (hr : Pl.reprT Y e kvs = some r) : E.blt F.reprT [a] z = some (eS r, z1) := by
  refine ev_blt1 h1 ?_
  unfold F.reprT
  dsimp only
  rw [hc]
  dsimp only
  have e1 : (kvs.map fun kv => (Y.k kv.1, e kv.2)).map Prod.snd = (kvs.map Prod.snd).map e := by rw [List.map_map, List.map_map]; rfl
  have e2 : (kvs.map fun kv => (Y.k kv.1, e kv.2)).map Prod.fst = kvs.map fun kv => Y.k kv.1 := by rw [List.map_map]; rfl
  rw [e1, e2]
  unfold Pl.reprT at hr
  split at hr
  · rename_i ps hp
    try rw [hp]
    try dsimp only
    split at hr
    · rename_i c
      cases hr
      first
        | rfl
        | exact if_pos c
        | (split
           · rfl
           · rename_i nc
             exact absurd c nc)
    · cases hr
  · cases hr
end
end Mi

set_option Elab.async false
set_option linter.all false
set_option maxRecDepth 100000
set_option maxHeartbeats 1000000
/-! Mi, part Dh: a def given by facts of the head, whose body may ask for a repr. -/
namespace Mi
open PySem PySem.Spec PyProof.Rows L2
section
variable {P : Program} {w : World} {mg : Str → Option Value} {base : Heap}
theorem fnD_gok {K : Kx} {x qual : Str} {params : Arguments} {body : List Stmt} {scope : Scope} {dvs : List V} {kws : List (Str × V)} {f : Addr} {fd : FuncData} {N ps : List Str} {k n kk : Nat} {b : C} (F : FunD K x qual params body scope dvs kws f fd) (S : FnScope N ps scope) (hn : N.length = n) (hk : ps.length = kk)
    (hb : ∀ (A : Around) (env : List Env) (sh : Shared) (Hh : Hp) (Ee : XK), A.guards = some [] → Room k (A.deeper (envOfC qual scope sh.heap.objs.size f fd.code)) → PSs (cxOf CX0 P w K mg base N qual scope f fd.code A env sh Hh Ee).nox body (Ts K b)) :
    GOk P w K mg base (k + 1) f fd ps (spM kk K (fn n kk b)) := by
  subst hn hk
  obtain ⟨oc, od, dV, kV, doc, pm, an, cv, ct, osl, rfl, lk, hcd, _, _⟩ := F.ex
  intro A env sh Hh ar us xs Qq Ee gA room e0 bd rx hsp
  have xl : xs.length = ps.length := hsp.1
  have kin : PySem.W.Frag.In K sh.heap := e0.mod.kin.keeps fun p u q => (e0.bs p u q).1
  have lim : sh.heap.NoLimit := e0.mod.nolimit.keeps fun p u q => (e0.bs p u q).1
  have kinds : ∀ y ∈ ps.zip us, scope.names.lookup y.1 = some .local ∨ (scope.names.lookup y.1 = some .cell ∧ ((cellsFrom (sh.heap.objs.size + 1) scope.names []).lookup y.1).isSome = true) := by
    rintro ⟨nm, vv⟩ hy
    cases S.par nm (List.of_mem_zip hy).1 with
    | inl l => exact Or.inl l
    | inr c => exact Or.inr ⟨c, PySem.W.cellsFrom_some _ _ _ (Or.inl c)⟩
  apply codeAny_call_function room.depth (kin _ _ lk) rfl S.co S.gen rfl (PySem.W.codeRec_of kin hcd) (bd _ _ _ _ ?_)
  apply wpAny_newFunctionEnv_cells S.kind kinds
  intro en hen s2 xx
  subst hen
  refine And.intro (lim.keeps xx.toInCall.keep) (codeAny_func ?_)
  have pt := hb A env sh Hh Ee gA (room.deeper _)
  have Iv : Inv (cxOf CX0 P w K mg base N qual scope f cv A env sh Hh Ee) [] (start N xs) Hh s2 := inv_start S room.hd e0 xl rx xx
  apply wpAny_mono (pt.nox.run [] s2 (start N xs) Hh _ Iv (fn_body S hsp)) ?_ (fun _ _ q => q)
  intro fl s3 hs
  have done : ∀ {sg2 : L2.St} {H2 : Hp} {v : V} {u : Value}, Inv (cxOf CX0 P w K mg base N qual scope f cv A env sh Hh Ee) [] sg2 H2 s3 → RelV v u → Qq v H2 → CE env P w Hh sh Qq u s3 := by
    intro sg2 H2 v u J rv q
    exact ⟨v, H2, J.os, J.bare, J.base, J.hok, rv, q⟩
  match fl, hs with
  | .ret u, ⟨v, sg2, H2, J, rv, q⟩ => exact done J rv q
  | .next, ⟨sg2, H2, J, q⟩ => exact done (v := V.non) (u := Value.none) J rfl q
  | .brk, ⟨_, _, _, q⟩ => exact q.elim
  | .cont, ⟨_, _, _, q⟩ => exact q.elim
end
end Mi

set_option Elab.async false
set_option linter.all false
set_option maxRecDepth 100000
set_option maxHeartbeats 400000
/-! Mi, part Di: what a def lays into the shared heap is let go at its end; lists that only its value names are values from then on. -/
namespace Mi
open PySem PySem.Spec PyProof.Rows L2
/-- names from m on are put as what stands there -/
def unr : Nat → Nat → List D → D → D
  | n + 1, m, xs, .tup ds => .tup (ds.map (unr n m xs))
  | n + 1, m, xs, .lst ds => .lst (ds.map (unr n m xs))
  | n + 1, m, xs, .dk kvs => .dk (kvs.map fun kv => (kv.1, unr n m xs kv.2))
  | n + 1, m, xs, .dt kvs => .dt (kvs.map fun kv => (kv.1, unr n m xs kv.2))
  | _ + 1, m, xs, .ref k => if k < m then .ref k else (xs[k - m]?).getD .non
  | _, _, _, d => d
def isLs : D → Bool
  | .lst _ => true
  | _ => false
def unrOk : Nat → Nat → List D → D → Bool
  | n + 1, m, xs, .tup ds => ds.all (unrOk n m xs)
  | n + 1, m, xs, .lst ds => ds.all (unrOk n m xs)
  | n + 1, m, xs, .dk kvs => kvs.all fun kv => unrOk n m xs kv.2
  | n + 1, m, xs, .dt kvs => kvs.all fun kv => unrOk n m xs kv.2
  | _ + 1, m, xs, .ref k => decide (k < m) || (match xs[k - m]? with | some x => isLs x && blw 12 m x | none => false)
  | n, m, _, d => blw n m d
section
variable {K : Kx} {F F' F2 F0 : Hp} {rho t : List Addr} {H : Hp}
theorem Ob.blw {m n : Nat} (hm : rho.length = m) {a : Addr} {d : D} (h : Mi.blw (n + 1) m d = true) (o : Ob K F (rho ++ t) H a d) : Ob K F rho H a d := by
  have ls : ∀ {ds : List D} {vs : List V}, ds.all (Mi.blw n m) = true → Rps K F (rho ++ t) ds vs → Rps K F rho ds vs := fun {ds vs} hd rs => Rps.conv1 (fun d hd2 v r => r.blw hm n (List.all_eq_true.mp hd d hd2)) rs
  have al : ∀ {κ : Type} {kvs : List (κ × D)}, (kvs.all fun kv => Mi.blw n m kv.2) = true → (kvs.map Prod.snd).all (Mi.blw n m) = true := fun {κ kvs} h => by
    rw [List.all_map]
    exact h
  cases d <;> try exact o.elim
  · obtain ⟨xs, e, r⟩ := o
    exact ⟨xs, e, ls (by simpa only [Mi.blw] using h) r⟩
  · obtain ⟨xs, e, k, r⟩ := o
    exact ⟨xs, e, k, ls (al (by simpa only [Mi.blw] using h)) r⟩
  · obtain ⟨xs, e, k, r⟩ := o
    exact ⟨xs, e, k, ls (al (by simpa only [Mi.blw] using h)) r⟩
  · obtain ⟨C, dx, es, c, e, k, r⟩ := o
    exact ⟨C, dx, es, c, e, k, ls (al (by simpa only [Mi.blw] using h)) r⟩
theorem Rp.unr {m : Nat} {xs : List D} (hm : rho.length = m) (sf : Same F F2) (ob : ∀ (j : Nat) (ds : List D) (a : Addr), xs[j]? = some (.lst ds) → Mi.blw 12 m (.lst ds) = true → t[j]? = some a → Rp K F2 rho (.lst ds) (.ref a)) :
    ∀ (n : Nat) {d : D} {v : V}, unrOk n m xs d = true → Rp K F (rho ++ t) d v → Rp K F2 rho (Mi.unr n m xs d) v := by
  intro n
  induction n with
  | zero =>
    intro d v h r
    have h : Mi.blw 0 m d = true := by cases d <;> first | exact h | (simp [unrOk, Mi.blw] at h)
    have e : Mi.unr 0 m xs d = d := by cases d <;> rfl
    rw [e]
    exact (r.blw hm 0 h).mono sf (List.prefix_refl _)
  | succ n ih =>
    intro d v h r
    have ls : ∀ {ds : List D} {vs : List V}, ds.all (unrOk n m xs) = true → Rps K F (rho ++ t) ds vs → Rps K F2 rho (ds.map (Mi.unr n m xs)) vs := fun {ds vs} hd rs => Rps.conv (fun d hd2 v r => ih (List.all_eq_true.mp hd d hd2) r) rs
    have al : ∀ {κ : Type} {kvs : List (κ × D)}, (kvs.all fun kv => unrOk n m xs kv.2) = true → (kvs.map Prod.snd).all (unrOk n m xs) = true := fun {κ kvs} h => by
      rw [List.all_map]
      exact h
    have fs : ∀ {κ : Type} {kvs : List (κ × D)}, (kvs.map fun kv => (kv.1, Mi.unr n m xs kv.2)).map Prod.fst = kvs.map Prod.fst := fun {κ kvs} => by
      rw [List.map_map]; rfl
    have sn : ∀ {κ : Type} {kvs : List (κ × D)}, (kvs.map fun kv => (kv.1, Mi.unr n m xs kv.2)).map Prod.snd = (kvs.map Prod.snd).map (Mi.unr n m xs) := fun {κ kvs} => by
      rw [List.map_map, List.map_map]; rfl
    cases r with
    | non => exact .non
    | bl b => exact .bl b
    | int i => exact .int i
    | str x => exact .str x
    | tup e r => exact .tup (sf _ _ e) (ls (by simpa only [unrOk] using h) r)
    | lst e r => exact .lst (sf _ _ e) (ls (by simpa only [unrOk] using h) r)
    | kt e r => exact (Rp.blw hm (n + 1) (by simpa only [unrOk] using h) (.kt e r)).mono sf (List.prefix_refl _)
    | scr e r => exact (Rp.blw hm (n + 1) (by simpa only [unrOk] using h) (.scr e r)).mono sf (List.prefix_refl _)
    | ins c e k r => exact (Rp.blw hm (n + 1) (by simpa only [unrOk] using h) (.ins c e k r)).mono sf (List.prefix_refl _)
    | dk e k r => exact .dk (sf _ _ e) (k.trans fs.symm) (by rw [sn]; exact ls (al (by simpa only [unrOk] using h)) r)
    | dt e k r => exact .dt (sf _ _ e) (k.trans fs.symm) (by rw [sn]; exact ls (al (by simpa only [unrOk] using h)) r)
    | ref e =>
      rename_i k a
      simp only [unrOk, Bool.or_eq_true, decide_eq_true_eq] at h
      simp only [Mi.unr]
      by_cases c : k < m
      · rw [if_pos c]
        exact .ref (pre_short (by omega) e)
      · rw [if_neg c]
        have h := h.resolve_left c
        split at h
        · rename_i x hx
          rw [Bool.and_eq_true] at h
          rw [hx]
          rw [List.getElem?_append_right (by omega), hm] at e
          cases x <;> try (simp [isLs] at h; done)
          exact ob _ _ _ hx h.2 e
        · cases h
end
open Classical in
/-- a def's end: its shared objects are let go -/
noncomputable def gcV (h : List D) : Option (D × List D) → Option (D × List D)
  | some (d, h') => if h.length ≤ h'.length ∧ (∀ (i : Nat) (x : D), i < h.length → h'[i]? = some x → (h[i]? = some x ∨ blw 12 h.length x = true)) ∧ unrOk 12 h.length (h'.drop h.length) d = true then some (unr 12 h.length (h'.drop h.length) d, h'.take h.length) else none
  | none => none
noncomputable def gcF (mf : Fn) : Fn := fun xs h => gcV h (mf xs h)
theorem gc_ev {mf : Fn} {xs h ext : List D} {d d' : D} (e : mf xs h = some (d, h ++ ext)) (h1 : unrOk 12 h.length ext d = true) (h2 : unr 12 h.length ext d = d') : gcF mf xs h = some (d', h) := by
  unfold gcF gcV
  rw [e]
  dsimp only
  rw [List.drop_left, List.take_left, if_pos, h2]
  exact ⟨by rw [List.length_append]; omega, fun i x hi hx => .inl (by rw [← hx, List.getElem?_append_left hi]), h1⟩
theorem gc_sp {K : Kx} {n : Nat} {mf : Fn} {vs : List V} {H : Hp} {Q : VK} {E : XK} (h : spM n K (gcF mf) vs H Q E) : spM n K mf vs H Q E := by
  obtain ⟨hl, F, rho, h, ds, R, q, d, h1, e, k⟩ := h
  unfold gcF gcV at e
  split at e
  · rename_i d0 h' hm
    split at e
    · rename_i cc
      obtain ⟨c1, c2, c3⟩ := cc
      cases e
      refine ⟨hl, F, rho, h, ds, R, q, d0, h', hm, fun F' rho' H' v s1 p1 r fr nf nr rv => ?_⟩
      obtain ⟨ps, rfl⟩ := p1
      have lr : h.length = rho.length := R.len
      have up : ∀ {n : Nat} {a : Addr}, rho[n]? = some a → (rho ++ ps)[n]? = some a := fun {n a} e => by rw [List.getElem?_append_left (List.getElem?_eq_some_iff.mp e).1]; exact e
      have pg : ∀ {a : Addr}, a ∈ ps → ∃ j : Nat, (rho ++ ps)[j]? = some a ∧ rho.length ≤ j := fun {a} ha => by
        obtain ⟨j, hj, e⟩ := List.getElem_of_mem ha
        exact ⟨rho.length + j, by rw [List.getElem?_append_right (by omega), Nat.add_sub_cancel_left, List.getElem?_eq_getElem hj, e], by omega⟩
      have ne : ∀ {n : Nat} {a : Addr}, rho[n]? = some a → a ∉ ps := fun {n a} e ha => by
        obtain ⟨j, h1, h2⟩ := pg ha
        have h3 := r.inj _ _ _ (up e) h1
        have h4 := (List.getElem?_eq_some_iff.mp e).1
        omega
      have fp : ∀ {a : Addr}, a ∈ ps → F' a = none := fun {a} ha => by
        obtain ⟨j, h1, _⟩ := pg ha
        exact r.nf _ _ h1
      have hp : ∀ {a : Addr}, a ∈ ps → H a = none := fun {a} ha => by
        obtain ⟨j, h1, _⟩ := pg ha
        rcases nr _ _ h1 with ⟨m, h2⟩ | h2
        · exact absurd ha (ne h2)
        · exact h2
      have tp : ∀ p ∈ K.tb.t, p.1 ∉ ps := fun p hp ha => by
        obtain ⟨j, h1, _⟩ := pg ha
        exact r.tr p hp j h1
      let F2 : Hp := fun a => if a ∈ ps then H' a else F' a
      have f2 : ∀ {a : Addr}, a ∉ ps → F2 a = F' a := fun {a} ha => if_neg ha
      have f3 : ∀ {a : Addr}, a ∈ ps → F2 a = H' a := fun {a} ha => if_pos ha
      have sf : Same F' F2 := fun a u e => by
        rw [f2 fun ha => by rw [fp ha] at e; cases e]
        exact e
      have hob : ∀ (j : Nat) (ds : List D) (a : Addr), (h'.drop h.length)[j]? = some (.lst ds) → Mi.blw 12 h.length (.lst ds) = true → ps[j]? = some a → Rp K F2 rho (.lst ds) (.ref a) := fun j ds a e1 e2 e3 => by
        rw [List.getElem?_drop] at e1
        obtain ⟨xs, e4, e5⟩ := r.obs _ _ a e1 (by rw [List.getElem?_append_right (by omega), ← e3]; congr 1; omega)
        refine .lst (by rw [f3 (List.mem_of_getElem? e3)]; exact e4) ?_
        exact (Rps.conv1 (fun d hd v r2 => r2.blw lr.symm 11 (by
          simp only [Mi.blw] at e2
          exact List.all_eq_true.mp e2 d hd)) e5).mono sf (List.prefix_refl _)
      refine k F2 rho H' v (s1.trans sf) (List.prefix_refl _) ?_ fr (fun a o e1 nt e2 e3 => ?_) (fun n a e => .inl ⟨n, e⟩) (Rp.unr lr.symm sf hob 12 c3 rv)
      · refine ⟨fun a u e => ?_, by rw [List.length_take, ← lr]; omega, fun n x a e1 e2 => ?_, fun i j a e1 e2 => r.inj i j a (up e1) (up e2), fun n a e => by rw [f2 (ne e)]; exact r.nf n a (up e), r.tb.mono sf (fun _ _ => rfl) (fun p hp => by rw [f2 (tp p hp)]; exact r.tb.nf p hp), fun p hp n e => r.tr p hp n (up e)⟩
        · by_cases c : a ∈ ps
          · rw [f3 c] at e
            exact e
          · rw [f2 c] at e
            exact r.fro _ _ e
        · have hn : n < h.length := by
            have := (List.getElem?_eq_some_iff.mp e1).1
            rw [List.length_take] at this
            omega
          rw [List.getElem?_take_of_lt hn] at e1
          have o := r.obs n x a e1 (up e2)
          rcases c2 n x hn e1 with c | c
          · exact (Ob.short (R.obs n x a c e2) o).mono sf (List.prefix_refl _) rfl
          · exact (Ob.blw lr.symm c o).mono sf (List.prefix_refl _) rfl
      · have c : a ∉ ps := fun ha => by
          rw [hp ha] at e1
          cases e1
        rw [f2 c]
        exact nf a o e1 nt e2 e3
    · cases e
  · cases e
end Mi

set_option Elab.async false
set_option linter.all false
set_option maxRecDepth 100000
set_option maxHeartbeats 400000
/-! Mi, part Dj: d.setdefault(k, [..]) of a slot's own dict with tuple keys; the new list stands in the shared heap. -/
namespace Mi
open PySem PySem.Spec PyProof.Rows L2
section
variable {X : Cx} {A : Around} {E : Value → Shared → Prop} {pins : List (Addr × Obj)} {σ : L2.St} {H : Hp} {s : Shared} {a b : Addr} {d : V} {r : Value}
theorem d_setdT {kvs : List (List Key × V)} {k : List Key} {Q : Value → Shared → Prop} (hu : A.units + 1 < cLine) (I : Inv X pins σ H s) (e : H a = some (.dT kvs)) (eb : H b = some (.tup (k.map kV))) (hl : kvs.length < sizeLine) (rd : RelV d r)
    (h1 : ∀ v, valV kvs k = some v → ∀ w' s', Inv X pins σ H s' → RelV v w' → Q w' s') (h2 : valV kvs k = none → ∀ s', Inv X pins σ (upd H a (.dT (putK kvs k d))) s' → Q r s') :
    wpAny (model X.prog X.w) A (call (.builtin "dict.setdefault") [.ref a, .ref b, r]) Q E s := by
  obtain ⟨z, hd, xs, rel, dd⟩ := dt_of I.hok e
  have hz : xs.length ≤ sizeLine := by rw [← Paired.length rel]; exact z
  refine call_setdefault_heap (knd := tupleKind (mixKind X.prog X.w)) (k := k) (xs := xs) (tupleKind_room_in1 hu) (key_of I.hok eb) hd dd (fun p hp => ?_) (fun hn h' dd' hs => ?_) hz
  · have r := rel.val k
    rw [hp] at r
    cases ev : valV kvs k with
    | none => rw [ev] at r; exact (show False from r).elim
    | some v0 =>
      rw [ev] at r
      exact h1 v0 ev _ _ (I.tok _) r
  · have r := rel.val k
    rw [hn] at r
    cases ev : valV kvs k with
    | some v0 => rw [ev] at r; exact (show False from r).elim
    | none =>
      have hl2 : (putK kvs k d).length ≤ sizeLine := by have := length_putK kvs k d; omega
      obtain ⟨q, es, ep, hq, g2, g3, g4, _, g5⟩ := dd'
      refine h2 ev _ (d_write I (by rw [e]; exact True.intro) hs ⟨q, hq⟩ ⟨hl2, hd, _, (rel.put k eb rd).keeps fun c ys ec => ?_, q, es, ep, hq, g2, g3, g4, g5⟩)
      rw [upd_ne (ne_of ec e (fun z => nomatch z))]
      exact ec
def tDSetd (td ty tx : TE) : TE := fun σ H Q => td σ H fun x H1 => ∃ a, x = .ref a ∧ IsD H1 a ∧ ty σ H1 fun y H2 => tx σ H2 fun z H3 => ∃ (kvs : List (List Key × V)) (k : List Key) (b : Addr), H3 a = some (.dT kvs) ∧ y = .ref b ∧ H3 b = some (.tup (k.map kV)) ∧ kvs.length < sizeLine ∧
  (∀ v, valV kvs k = some v → Q v H3) ∧ (valV kvs k = none → Q z (upd H3 a (.dT (putK kvs k z))))
theorem pe_dsetd {o e f : Expr} {apos cpos : Pos} {td ty tx : TE} (hu : X.A.units + 1 < cLine) (ho : PE X o td) (he : PE X e ty) (hf : PE X f tx) (m : M2 X o "setdefault" apos e f cpos) : PE X (.Call (.Attribute o "setdefault" apos) [e, f] [] cpos) (tDSetd td ty tx) := by
  refine ⟨fun pins s σ H Q I h => ?_⟩
  refine wpAny_Call_method m.base m.few m.line PySem.F.plainAttrs_dict PySem.F.slot_dict_setdefault PySem.F.type_dict_setdefault (thn (ho.run pins s σ H _ I h) fun u s1 ⟨x, H1, I1, rx, a, ex, d, q1⟩ => ?_)
  subst ex
  obtain rfl : u = Value.ref a := rx
  obtain ⟨t1, t2, _⟩ := isD_at I1 d
  refine ⟨t1, t2, ?_⟩
  rw [m.trees]
  refine Calls.callWith_builtin rfl (Calls.evalArgs_plain (Calls.spliced_cons (thn (he.run pins s1 σ H1 _ I1 q1) fun iv s2 ⟨y, H2, I2, ry, q2⟩ =>
    Calls.spliced_cons (thn (hf.run pins s2 σ H2 _ I2 q2) fun fv s3 ⟨z, H3, I3, rz, kvs, k, b, h1, h2, h3, h4, h5, h6⟩ => Calls.spliced_nil ?_))))
  subst h2
  cases (show iv = Value.ref b from ry)
  exact d_setdT hu I3 h1 h3 h4 rz (fun v ev w' s4 I4 rw' => ⟨_, H3, I4, rw', h5 v ev⟩) fun ev s4 I4 => ⟨_, _, I4, rz, h6 ev⟩
end
namespace E
/-- d.setdefault(k, [..]): d a slot's own dict -/
def setd (a b : M D) (mf : M (List D)) : M D := bnd a fun x z => match x with
  | .own i => match z.s[i]? with
    | some (.own (.dt _)) => bnd b (fun y => bnd mf fun xs z => match z.s[i]?, keyT y with
      | some (.own (.dt kvs)), some k => if kvs.length < szl then match getG kvs k with
        | some d => some (d, z)
        | none => some (.ref z.h.length, ⟨z.s.set i (.own (.dt (putG kvs k (.ref z.h.length)))), z.h ++ [.lst xs]⟩) else none
      | _, _ => none) z
    | _ => none
  | _ => none
end E
section
variable {X : Cx} {Tb : Tbs}
theorem setd_go {K : Kx} {ma mb : M D} {mf : M (List D)} : ∀ σ H Q, Te K (E.setd ma mb mf) σ H Q → tDSetd (Te K ma) (Te K mb) (Tf K mf) σ H Q := by
  rintro σ H Q ⟨B, F, rho, om, z, g⟩
  refine (g.bnd.imp fun _ _ H1 _ _ xv _ _ _ _ _ ⟨F2, rho2, z2, x2, eg1, s1, p1, r1, g1⟩ => ?_).tx (R := rV K)
  obtain ⟨R, d, z4, e, k⟩ := g1
  dsimp only at e
  split at e
  · rename_i i
    split at e
    · rename_i kv0 hs0
      obtain ⟨a, ho, e0, es0, h0, _, _⟩ := R.sl _ _ hs0
      obtain rfl : xv = .ref a := by
        cases r1 with
        | pure r1 => cases r1
        | own h => rw [ho] at h; cases h; rfl
      refine ⟨a, rfl, .inr ⟨es0, .inl h0⟩, ?_⟩
      have g2 : Go K (rV K) B F2 rho2 om (bnd mb fun y => bnd mf fun xs z => match z.s[i]?, keyT y with
        | some (.own (.dt kvs)), some k => if kvs.length < szl then match getG kvs k with
          | some d => some (d, z)
          | none => some (.ref z.h.length, ⟨z.s.set i (.own (.dt (putG kvs k (.ref z.h.length)))), z.h ++ [.lst xs]⟩) else none
        | _, _ => none) z2 σ H1 Q := ⟨R, d, z4, e, k⟩
      refine (g2.bnd.imp fun _ _ H2 _ _ yv _ _ _ _ _ ⟨F3, rho3, z3, y3, eg2, s2, p2, r2, g3⟩ => ?_).tx (R := rV K)
      refine (g3.bnd.imp fun _ _ H4 _ _ wv _ _ _ _ _ ⟨F5, rho5, z5, w5, eg5, s5, p5, ⟨p, vs, hv, hp, f, r5⟩, g5⟩ => ?_).tx (R := rF K)
      subst hv
      obtain ⟨R3, d3, z6, e3, k3⟩ := g5
      dsimp only at e3
      split at e3
      · rename_i kvs ks hs hk
        split at e3
        · rename_i hz
          obtain ⟨a2, ho2, e02, es, h1, h2, h3⟩ := R3.sl _ _ hs
          rw [ho] at ho2
          cases ho2
          have rk : Rk K F5 rho5 kvs es := ⟨h2, h3⟩
          obtain ⟨b, eb, hb⟩ := keyT_ok ((r2.mono s5 p5).of_pure (keyT_pure hk)) hk
          refine ⟨es, ks, b, h1, eb, R3.rh.fro _ _ hb, by rw [rk.length]; exact szl_ok hz, fun v ev => ?_, fun ev => ?_⟩
          · rcases rk.get ks with ⟨q1, q2⟩ | ⟨d2, v2, q1, q2, q3⟩
            · rw [q2] at ev; cases ev
            · rw [q2] at ev
              cases ev
              rw [q1] at e3
              cases e3
              exact k3 F5 rho5 H4 _ (Same.refl _) (List.prefix_refl _) R3 (.pure q3)
          · rcases rk.get ks with ⟨q1, q2⟩ | ⟨d2, v2, q1, q2, q3⟩
            · rw [q1] at e3
              cases e3
              obtain ⟨R6, q6⟩ := R3.share (d := .lst w5) f ⟨vs, hp, r5⟩
              have rk6 : Rk K F5 (rho5 ++ [p]) kvs es := ⟨h2, h3.mono (Same.refl _) (List.prefix_append _ _)⟩
              have r := Rk.put (K := K) (F := F5) (rho := rho5 ++ [p]) ks (.ref q6) rk6
              have R7 := R6.mutOwn (d := .dt (putG kvs ks (.ref z5.h.length))) ho hs (o := .dT (putK es ks (.ref p))) ⟨_, upd_same, r.1, r.2⟩
              exact k3 _ _ _ _ (Same.refl _) (List.prefix_append _ _) R7 (.pure (.ref q6))
            · rw [q2] at ev; cases ev
        · cases e3
      · cases e3
    · cases e
  · cases e
theorem me_setd {o e f : Expr} {apos cpos : Pos} {ma mb : M D} {mf : M (List D)} (hu : X.A.units + 64 < cLine) (ha : PE X o (Te (kx X Tb) ma)) (hb : PE X e (Te (kx X Tb) mb)) (hc : PE X f (Tf (kx X Tb) mf)) (m : M2 X o "setdefault" apos e f cpos := by exact ⟨rfl, rfl, rfl, rfl⟩) : PE X (.Call (.Attribute o "setdefault" apos) [e, f] [] cpos) (Te (kx X Tb) (E.setd ma mb mf)) :=
  pe_imp (pe_dsetd (by omega) ha hb hc m) setd_go
end
end Mi

set_option Elab.async false
set_option linter.all false
set_option maxRecDepth 100000
set_option maxHeartbeats 400000
/-! Mi, part Dk: plain rules for lists of the shared heap that a dict or a list of the def's own names; objects that are given by their names. -/
namespace Mi
open PySem L2
theorem cont_ref {n : Nat} {ds : List D} {z : Z} (hn : z.h[n]? = some (.lst ds)) : cont (.ref n) z = some (false, ds) := by
  unfold cont
  dsimp only
  rw [hn]
theorem dc_refT {κ β : Type} {Y : TEnc κ} {e : β → D} {kvs : List (κ × β)} {n : Nat} {z : Z} (hn : z.h[n]? = some (eT Y e kvs)) : dcont (.ref n) z = some (eT Y e kvs) := by
  unfold dcont
  dsimp only
  rw [hn]
theorem dc_refK {κ β : Type} {Y : KEnc κ} {e : β → D} {kvs : List (κ × β)} {n : Nat} {z : Z} (hn : z.h[n]? = some (eK Y e kvs)) : dcont (.ref n) z = some (eK Y e kvs) := by
  unfold dcont
  dsimp only
  rw [hn]
theorem get_old {h l : List D} {n : Nat} {d : D} (hn : h[n]? = some d) : (h ++ l)[n]? = some d := by
  rw [List.getElem?_append_left (List.getElem?_eq_some_iff.mp hn).1]
  exact hn
theorem get_new {h : List D} {d : D} : (h ++ [d])[h.length]? = some d := by
  rw [List.getElem?_append_right (Nat.le_refl _), Nat.sub_self]
  rfl
theorem get_at {h l : List D} {j : Nat} {d : D} (hj : l[j]? = some d) : (h ++ l)[h.length + j]? = some d := by
  rw [List.getElem?_append_right (Nat.le_add_right _ _), Nat.add_sub_cancel_left]
  exact hj
theorem set_at {h l : List D} {j : Nat} {d : D} : (h ++ l).set (h.length + j) d = h ++ l.set j d := by
  rw [List.set_append_right _ _ (Nat.le_add_right _ _), Nat.add_sub_cancel_left]
theorem set_new {h : List D} {d d' : D} : (h ++ [d]).set h.length d' = h ++ [d'] := by
  rw [List.set_append_right _ _ (Nat.le_refl _), Nat.sub_self]
  rfl
/-! ### what names no shared object -/
section
variable {α β γ δ ε ζ κ : Type}
/-- no name in any e x, n levels deep -/
def BlE (n : Nat) (e : α → D) : Prop := ∀ (x : α) (m : Nat), blw n m (e x) = true
theorem blw_up {m : Nat} : ∀ (n : Nat) {d : D}, blw n m d = true → blw (n + 1) m d = true
  | 0, d, h => by cases d <;> first | rfl | (simp [blw] at h)
  | n + 1, d, h => by
    have all : ∀ {ι : Type} {l : List ι} {f : ι → D}, (l.all fun x => blw n m (f x)) = true → (l.all fun x => blw (n + 1) m (f x)) = true := fun {ι l f} h => List.all_eq_true.mpr fun x hx => blw_up n (List.all_eq_true.mp h x hx)
    cases d with
    | non => rfl
    | bl b => rfl
    | int i => rfl
    | str x => rfl
    | tup xs => simp only [blw] at h ⊢; exact all (f := fun x => x) h
    | kt xs => simp only [blw] at h ⊢; exact all (f := fun x => x) h
    | lst xs => simp only [blw] at h ⊢; exact all (f := fun x => x) h
    | scr xs => simp only [blw] at h ⊢; exact all (f := fun x => x) h
    | ref k => simpa only [blw] using h
    | own i => simp [blw] at h
    | dk kvs => simp only [blw] at h ⊢; exact all (f := fun x : _ × D => x.2) h
    | dt kvs => simp only [blw] at h ⊢; exact all (f := fun x : _ × D => x.2) h
    | ins nm fs => simp only [blw] at h ⊢; exact all (f := fun x : _ × D => x.2) h
theorem blw_mono {m n k : Nat} {d : D} (h : blw n m d = true) (hk : n ≤ k) : blw k m d = true := by
  obtain ⟨j, rfl⟩ := Nat.exists_eq_add_of_le hk
  clear hk
  induction j with
  | zero => exact h
  | succ j ih => exact blw_up _ ih
theorem BlE.mono {n k : Nat} {e : α → D} (h : BlE n e) (hk : n ≤ k) : BlE k e := fun x m => blw_mono (h x m) hk
theorem BlE.I : BlE 0 eI := fun x m => by simp [blw]
theorem BlE.B : BlE 0 eB := fun x m => by simp [blw]
theorem BlE.S : BlE 0 eS := fun x m => by simp [blw]
theorem BlE.N : BlE 0 eN := fun x m => by simp [blw]
theorem BlE.O {n : Nat} {e : α → D} (h : BlE n e) : BlE n (eO e) := fun x m => by
  cases x with
  | none => cases n <;> rfl
  | some v => exact h v m
theorem BlE.L {n : Nat} {e : α → D} (h : BlE n e) : BlE (n + 1) (eL e) := fun x m => by
  show blw (n + 1) m (.lst (x.map e)) = true
  simp only [blw, List.all_map]
  exact List.all_eq_true.mpr fun y _ => h y m
theorem BlE.U {n : Nat} {e : α → D} (h : BlE n e) : BlE (n + 1) (eU e) := fun x m => by
  show blw (n + 1) m (.tup (x.map e)) = true
  simp only [blw, List.all_map]
  exact List.all_eq_true.mpr fun y _ => h y m
theorem BlE.T {n : Nat} {Y : TEnc κ} {e : α → D} (h : BlE n e) : BlE (n + 1) (eT Y e) := fun x m => by
  show blw (n + 1) m (.dt (x.map fun kv => (Y.k kv.1, e kv.2))) = true
  simp only [blw, List.all_map]
  exact List.all_eq_true.mpr fun y _ => h y.2 m
theorem BlE.K {n : Nat} {Y : KEnc κ} {e : α → D} (h : BlE n e) : BlE (n + 1) (eK Y e) := fun x m => by
  show blw (n + 1) m (.dk (x.map fun kv => (Y.k kv.1, e kv.2))) = true
  simp only [blw, List.all_map]
  exact List.all_eq_true.mpr fun y _ => h y.2 m
theorem blw_tup {n m : Nat} {ds : List D} (h : ∀ d ∈ ds, blw n m d = true) : blw (n + 1) m (.tup ds) = true := by
  simp only [blw]
  exact List.all_eq_true.mpr h
theorem blw_ins {n m : Nat} {nm : Str} {fs : List (Str × D)} (h : ∀ d ∈ fs.map Prod.snd, blw n m d = true) : blw (n + 1) m (.ins nm fs) = true := by
  simp only [blw]
  exact List.all_eq_true.mpr fun x hx => h x.2 (List.mem_map_of_mem hx)
theorem BlE.t2 {n : Nat} {a : α → D} {b : β → D} (h1 : BlE n a) (h2 : BlE n b) : BlE (n + 1) (e2 a b) := fun x m => blw_tup fun d hd => by
  simp only [List.mem_cons, List.not_mem_nil, or_false] at hd
  rcases hd with rfl | rfl
  · exact h1 _ m
  · exact h2 _ m
theorem BlE.t3 {n : Nat} {a : α → D} {b : β → D} {c : γ → D} (h1 : BlE n a) (h2 : BlE n b) (h3 : BlE n c) : BlE (n + 1) (e3 a b c) := fun x m => blw_tup fun d hd => by
  simp only [List.mem_cons, List.not_mem_nil, or_false] at hd
  rcases hd with rfl | rfl | rfl
  · exact h1 _ m
  · exact h2 _ m
  · exact h3 _ m
theorem BlE.t4 {n : Nat} {a : α → D} {b : β → D} {c : γ → D} {d' : δ → D} (h1 : BlE n a) (h2 : BlE n b) (h3 : BlE n c) (h4 : BlE n d') : BlE (n + 1) (e4 a b c d') := fun x m => blw_tup fun d hd => by
  simp only [List.mem_cons, List.not_mem_nil, or_false] at hd
  rcases hd with rfl | rfl | rfl | rfl
  · exact h1 _ m
  · exact h2 _ m
  · exact h3 _ m
  · exact h4 _ m
/-- what names no shared object from m on stays -/
theorem unr_id {m : Nat} {xs : List D} : ∀ (n : Nat) {d : D}, blw n m d = true → unrOk n m xs d = true ∧ unr n m xs d = d
  | 0, d, h => by cases d <;> first | exact ⟨rfl, rfl⟩ | (simp [blw] at h)
  | n + 1, d, h => by
    have a1 : ∀ {l : List D}, l.all (blw n m) = true → l.all (unrOk n m xs) = true ∧ l.map (unr n m xs) = l := fun {l} h => ⟨List.all_eq_true.mpr fun x hx => (unr_id n (List.all_eq_true.mp h x hx)).1, by
      rw [List.map_congr_left (g := id) fun x hx => (unr_id n (List.all_eq_true.mp h x hx)).2, List.map_id]⟩
    have a2 : ∀ {ι : Type} {l : List (ι × D)}, (l.all fun kv => blw n m kv.2) = true → (l.all fun kv => unrOk n m xs kv.2) = true ∧ (l.map fun kv => (kv.1, unr n m xs kv.2)) = l := fun {ι l} h => ⟨List.all_eq_true.mpr fun x hx => (unr_id n (List.all_eq_true.mp h x hx)).1, by
      rw [List.map_congr_left (g := id) fun x hx => by rw [(unr_id n (List.all_eq_true.mp h x hx)).2]; rfl, List.map_id]⟩
    cases d with
    | non => exact ⟨rfl, rfl⟩
    | bl b => exact ⟨rfl, rfl⟩
    | int i => exact ⟨rfl, rfl⟩
    | str x => exact ⟨rfl, rfl⟩
    | tup l => simp only [blw] at h; simp only [unrOk, unr]; exact ⟨(a1 h).1, by rw [(a1 h).2]⟩
    | lst l => simp only [blw] at h; simp only [unrOk, unr]; exact ⟨(a1 h).1, by rw [(a1 h).2]⟩
    | kt l => exact ⟨by simpa only [unrOk] using h, rfl⟩
    | scr l => exact ⟨by simpa only [unrOk] using h, rfl⟩
    | ins nm fs => exact ⟨by simpa only [unrOk] using h, rfl⟩
    | own i => simp [blw] at h
    | ref k =>
      simp only [blw, decide_eq_true_eq] at h
      simp only [unrOk, unr, if_pos h]
      exact ⟨by rw [decide_eq_true h]; rfl, trivial⟩
    | dk kvs => simp only [blw] at h; simp only [unrOk, unr]; exact ⟨(a2 h).1, by rw [(a2 h).2]⟩
    | dt kvs => simp only [blw] at h; simp only [unrOk, unr]; exact ⟨(a2 h).1, by rw [(a2 h).2]⟩
/-- .. at a def's end, where the value names nothing new -/
theorem gc_evP {mf : Fn} {xs h ext : List D} {e : α → D} {r : α} {n : Nat} (b : BlE n e) (hn : n ≤ 12) (q : mf xs h = some (e r, h ++ ext)) : gcF mf xs h = some (e r, h) :=
  have u := unr_id (m := h.length) (xs := ext) 12 (blw_mono (b r h.length) hn)
  gc_ev q u.1 u.2
end
/-! ### a dict of the def's own whose values are shared lists -/
section
variable {α β κ : Type}
def shK (Y : TEnc κ) : Nat → List (κ × List α) → List (List Key × D)
  | _, [] => []
  | b, kv :: r => (Y.k kv.1, .ref b) :: shK Y (b + 1) r
def hcK (e : α → D) (kvs : List (κ × List α)) : List D := kvs.map fun kv => .lst (kv.2.map e)
variable [DecidableEq κ]
def sdPut (k : κ) (v : α) : List (κ × List α) → List (κ × List α)
  | [] => [(k, [v])]
  | kv :: r => if kv.1 = k then (kv.1, kv.2 ++ [v]) :: r else kv :: sdPut k v r
def Pl.sdApp (kvs : List (κ × List α)) (k : κ) (v : α) : Option (List (κ × List α)) := if kvs.length < szl ∧ ∀ kv ∈ kvs, kv.2.length < szl then some (sdPut k v kvs) else none
def ixK (k : κ) : List (κ × List α) → Option Nat
  | [] => none
  | kv :: r => if kv.1 = k then some 0 else (ixK k r).map (· + 1)
theorem getG_cons {κ' α' : Type} [DecidableEq κ'] {k k' : κ'} {v : α'} {r : List (κ' × α')} : getG ((k', v) :: r) k = if k' = k then some v else getG r k := by
  unfold getG
  rw [List.find?_cons]
  by_cases e : k' = k
  · rw [decide_eq_true e, if_pos e]; rfl
  · rw [decide_eq_false e, if_neg e]
theorem getG_shK {Y : TEnc κ} {k : κ} : ∀ {kvs : List (κ × List α)} {b : Nat}, getG (shK Y b kvs) (Y.k k) = (ixK k kvs).map fun j => D.ref (b + j)
  | [], b => rfl
  | kv :: r, b => by
    rw [shK, getG_cons, ixK]
    by_cases e : kv.1 = k
    · rw [if_pos (congrArg Y.k e), if_pos e]; rfl
    · rw [if_neg (fun h => e (Y.inj _ _ h)), if_neg e, getG_shK, Option.map_map]
      congr 1
      funext j
      simp only [Function.comp]
      congr 1
      omega
theorem sd_none {k : κ} {v : α} : ∀ {kvs : List (κ × List α)}, ixK k kvs = none → sdPut k v kvs = kvs ++ [(k, [v])]
  | [], _ => rfl
  | kv :: r, h => by
    rw [ixK] at h
    by_cases e : kv.1 = k
    · rw [if_pos e] at h; cases h
    · rw [if_neg e] at h
      rw [sdPut, if_neg e, sd_none (Option.map_eq_none_iff.mp h)]
      rfl
theorem sd_some {k : κ} {v : α} {e : α → D} {Y : TEnc κ} : ∀ {kvs : List (κ × List α)} {j : Nat}, ixK k kvs = some j →
    ∃ xs, (hcK e kvs)[j]? = some (.lst (xs.map e)) ∧ (∃ kv ∈ kvs, kv.2 = xs) ∧ (hcK e kvs).set j (.lst ((xs ++ [v]).map e)) = hcK e (sdPut k v kvs) ∧ ∀ b, shK Y b (sdPut k v kvs) = shK Y b kvs
  | [], j, h => nomatch h
  | kv :: r, j, h => by
    rw [ixK] at h
    by_cases c : kv.1 = k
    · rw [if_pos c] at h
      cases h
      rw [sdPut, if_pos c]
      exact ⟨kv.2, rfl, ⟨kv, List.mem_cons_self, rfl⟩, rfl, fun b => rfl⟩
    · rw [if_neg c] at h
      obtain ⟨j', h1, h2⟩ := Option.map_eq_some_iff.mp h
      subst h2
      obtain ⟨xs, q1, ⟨kv', q2, q3⟩, q4, q5⟩ := sd_some (v := v) (e := e) (Y := Y) h1
      rw [sdPut, if_neg c]
      refine ⟨xs, q1, ⟨kv', List.mem_cons_of_mem _ q2, q3⟩, ?_, fun b => ?_⟩
      · show _ :: (hcK e r).set j' (.lst ((xs ++ [v]).map e)) = _ :: hcK e (sdPut k v r)
        rw [q4]
      · rw [shK, shK, q5]
theorem shK_snoc {Y : TEnc κ} {k : κ} {xs : List α} : ∀ {kvs : List (κ × List α)} {b : Nat}, shK Y b (kvs ++ [(k, xs)]) = shK Y b kvs ++ [(Y.k k, .ref (b + kvs.length))]
  | [], b => rfl
  | kv :: r, b => by
    show _ :: shK Y (b + 1) (r ++ [(k, xs)]) = _
    rw [shK_snoc]
    show _ = _ :: _
    simp only [List.length_cons, List.cons_append]
    rw [show b + 1 + r.length = b + (r.length + 1) by omega]
    rfl
theorem shK_len {Y : TEnc κ} : ∀ {kvs : List (κ × List α)} {b : Nat}, (shK Y b kvs).length = kvs.length
  | [], b => rfl
  | kv :: r, b => by rw [shK, List.length_cons, shK_len, List.length_cons]
theorem putG_none {κ' α' : Type} [DecidableEq κ'] {kvs : List (κ' × α')} {k : κ'} {v : α'} (h : getG kvs k = none) : putG kvs k v = kvs ++ [(k, v)] := by
  unfold putG
  rw [if_neg]
  intro c
  rw [List.any_eq_true] at c
  obtain ⟨x, hx, e⟩ := c
  unfold getG at h
  rw [Option.map_eq_none_iff, List.find?_eq_none] at h
  exact h x hx e
theorem hcK_len {e : α → D} {kvs : List (κ × List α)} : (hcK e kvs).length = kvs.length := List.length_map _
/-- d.setdefault(k, []).append(v) -/
theorem Rf.sdApp {γ : Type} {rest : C} {Φ : γ → Fl → Z → Prop} {i : Nat} {mk mv : M D} {y : D} {s : List Sl} {h : List D} {Y : TEnc κ} {kvs : List (κ × List α)} {k0 : κ} {v : α} {K : List (κ × List α) → Option γ} (e : α → D)
    (hi : s[i]? = some (.own (.dt (shK Y h.length kvs)))) {s' : List (κ × List α) → List Sl} (hs : ∀ ys, s.set i (.own (.dt (shK Y h.length ys))) = s' ys) (hk : mk ⟨s, h ++ hcK e kvs⟩ = some (y, ⟨s, h ++ hcK e kvs⟩)) (hy : keyT y = some (Y.k k0))
    (hm : ∀ ys H, mv ⟨s' ys, H⟩ = some (e v, ⟨s' ys, H⟩)) (hp : isPure (e v) = true) (k : ∀ r, Rf (K r) rest ⟨s' r, h ++ hcK e r⟩ Φ) :
    Rf ((Pl.sdApp kvs k0 v).bind K) (C.seq (C.drop (E.chg U.append (E.setd (E.var i) mk (N.disp [])) [mv])) rest) ⟨s, h ++ hcK e kvs⟩ Φ := by
  refine Rf.bd fun r hr => ?_
  unfold Pl.sdApp at hr
  split at hr
  · rename_i cc
    obtain ⟨c1, c2⟩ := cc
    cases hr
    have hil := (List.getElem?_eq_some_iff.mp hi).1
    have s0 : s' kvs = s := by
      rw [← hs]
      refine List.ext_getElem? fun j => ?_
      by_cases c : i = j
      · subst c; rw [List.getElem?_set_self hil, hi]
      · rw [List.getElem?_set_ne c]
    have hv : E.var i ⟨s, h ++ hcK e kvs⟩ = some (.own i, ⟨s, h ++ hcK e kvs⟩) := by
      unfold E.var
      dsimp only
      rw [hi]
    have ev : E.chg U.append (E.setd (E.var i) mk (N.disp [])) [mv] ⟨s, h ++ hcK e kvs⟩ = some (.non, ⟨s' (sdPut k0 v kvs), h ++ hcK e (sdPut k0 v kvs)⟩) := by
      have hd : N.disp [] ⟨s, h ++ hcK e kvs⟩ = some ([], ⟨s, h ++ hcK e kvs⟩) := rfl
      cases hx : ixK k0 kvs with
      | some j =>
        obtain ⟨xs, q1, ⟨kv, q2, q3⟩, q4, q5⟩ := sd_some (v := v) (e := e) (Y := Y) hx
        have e1 : E.setd (E.var i) mk (N.disp []) ⟨s, h ++ hcK e kvs⟩ = some (.ref (h.length + j), ⟨s, h ++ hcK e kvs⟩) := by
          unfold E.setd
          rw [bnd, hv]
          dsimp only
          rw [hi]
          dsimp only
          rw [bnd, hk]
          dsimp only
          rw [bnd, hd]
          dsimp only
          rw [hi, hy]
          dsimp only
          rw [if_pos (by rw [shK_len]; exact c1), getG_shK, hx]
          rfl
        have hc : cont (.ref (h.length + j)) ⟨s, h ++ hcK e kvs⟩ = some (false, xs.map e) := cont_ref (get_at q1)
        unfold E.chg
        rw [bnd, e1]
        dsimp only
        rw [if_pos (show E.isLst (.ref (h.length + j)) ⟨s, h ++ hcK e kvs⟩ = true by unfold E.isLst; dsimp only; rw [hc]; rfl)]
        rw [bnd, ev_args (by rw [← s0]; exact hm kvs _) ev_args0 hp]
        dsimp only
        unfold E.chgF
        dsimp only
        rw [get_at q1]
        dsimp only
        unfold U.append
        dsimp only
        rw [if_pos (by rw [List.length_map, ← q3]; exact c2 kv q2)]
        dsimp only
        rw [set_at, show List.map e xs ++ [e v] = List.map e (xs ++ [v]) by rw [List.map_append]; rfl, q4, show s' (sdPut k0 v kvs) = s by rw [← hs, q5, hs, s0], s0]
      | none =>
        have g0 : getG (shK Y h.length kvs) (Y.k k0) = Option.none := by rw [getG_shK, hx]; rfl
        have hl : (h ++ hcK e kvs).length = h.length + kvs.length := by rw [List.length_append, hcK_len]
        have e1 : E.setd (E.var i) mk (N.disp []) ⟨s, h ++ hcK e kvs⟩ = some (.ref (h.length + kvs.length), ⟨s' (kvs ++ [(k0, [])]), h ++ (hcK e kvs ++ [.lst []])⟩) := by
          unfold E.setd
          rw [bnd, hv]
          dsimp only
          rw [hi]
          dsimp only
          rw [bnd, hk]
          dsimp only
          rw [bnd, hd]
          dsimp only
          rw [hi, hy]
          dsimp only
          rw [if_pos (by rw [shK_len]; exact c1), g0]
          dsimp only
          rw [putG_none g0, hl, ← shK_snoc (xs := ([] : List α)), hs, List.append_assoc]
        have q1 : (hcK e kvs ++ [D.lst []])[kvs.length]? = some (.lst []) := by
          rw [List.getElem?_append_right (by rw [hcK_len]; exact Nat.le_refl _), hcK_len, Nat.sub_self]; rfl
        have hc : cont (.ref (h.length + kvs.length)) ⟨s' (kvs ++ [(k0, [])]), h ++ (hcK e kvs ++ [.lst []])⟩ = some (false, []) := cont_ref (get_at q1)
        unfold E.chg
        rw [bnd, e1]
        dsimp only
        rw [if_pos (show E.isLst (.ref (h.length + kvs.length)) ⟨s' (kvs ++ [(k0, [])]), h ++ (hcK e kvs ++ [.lst []])⟩ = true by unfold E.isLst; dsimp only; rw [hc]; rfl)]
        rw [bnd, ev_args (hm _ _) ev_args0 hp]
        dsimp only
        unfold E.chgF
        dsimp only
        rw [get_at q1]
        dsimp only
        unfold U.append
        dsimp only
        rw [if_pos (show ([] : List D).length < szl from (by decide : 0 < szl))]
        dsimp only
        rw [set_at, sd_none hx]
        have e2 : (hcK e kvs ++ [D.lst []]).set kvs.length (.lst ([] ++ [e v])) = hcK e (kvs ++ [(k0, [v])]) := by
          rw [List.set_append_right _ _ (by rw [hcK_len]; exact Nat.le_refl _), hcK_len, Nat.sub_self]
          unfold hcK
          rw [List.map_append]
          rfl
        rw [e2]
        congr 3
        rw [← hs, ← hs, shK_snoc, shK_snoc]
    exact Rf.drop ev (k _)
  · cases hr
/-- the def's end: its lists are values from then on -/
theorem unr_shK {Y : TEnc κ} {e : α → D} {m : Nat} (hb : BlE 8 e) : ∀ {kvs : List (κ × List α)} {pre : List D}, ((shK Y (m + pre.length) kvs).all fun kv => unrOk 11 m (pre ++ hcK e kvs) kv.2) = true ∧ ((shK Y (m + pre.length) kvs).map fun kv => (kv.1, unr 11 m (pre ++ hcK e kvs) kv.2)) = kvs.map fun kv => (Y.k kv.1, eL e kv.2)
  | [], pre => ⟨rfl, rfl⟩
  | kv :: r, pre => by
    have hx : (pre ++ hcK e (kv :: r))[pre.length]? = some (.lst (kv.2.map e)) := by
      rw [List.getElem?_append_right (Nat.le_refl _), Nat.sub_self]; rfl
    have ih := unr_shK hb (Y := Y) (m := m) (kvs := r) (pre := pre ++ [.lst (kv.2.map e)])
    have ea : pre ++ [D.lst (kv.2.map e)] ++ hcK e r = pre ++ hcK e (kv :: r) := by rw [List.append_assoc]; rfl
    rw [ea, List.length_append, show m + (pre.length + [D.lst (kv.2.map e)].length) = m + pre.length + 1 by simp only [List.length_singleton]; omega] at ih
    rw [shK, List.all_cons, List.map_cons, List.map_cons, ih.2]
    constructor
    · rw [ih.1, Bool.and_true]
      simp only [unrOk, Nat.add_sub_cancel_left, hx]
      have := BlE.mono (BlE.L hb) (by decide : 9 ≤ 12) kv.2 m
      show (decide (m + pre.length < m) || (isLs _ && blw 12 m (eL e kv.2))) = true
      rw [this]
      simp [isLs]
    · congr 2
      simp only [unr, Nat.add_sub_cancel_left, hx]
      rw [if_neg (by omega)]
      rfl
theorem gc_shK {mf : Fn} {xs h : List D} {Y : TEnc κ} {e : α → D} {kvs : List (κ × List α)} {n : Nat} (hb : BlE n e) (hn : n ≤ 8) (q : mf xs h = some (.dt (shK Y h.length kvs), h ++ hcK e kvs)) : gcF mf xs h = some (eT Y (eL e) kvs, h) := by
  have u := unr_shK (Y := Y) (m := h.length) (BlE.mono hb hn) (kvs := kvs) (pre := [])
  refine gc_ev q ?_ ?_
  · show ((shK Y h.length kvs).all fun kv => unrOk 11 h.length (hcK e kvs) kv.2) = true
    exact u.1
  · show D.dt ((shK Y h.length kvs).map fun kv => (kv.1, unr 11 h.length (hcK e kvs) kv.2)) = _
    congr 1
    exact u.2
end
end Mi

set_option Elab.async false
set_option linter.all false
set_option maxRecDepth 100000
set_option maxHeartbeats 400000
/-! Mi, part Dl: a def whose shared objects are let go; a list of pairs with a shared list each; blocks over things that stand in a relation to data; shared dicts. -/
namespace Mi
open PySem PySem.Spec L2
theorem gc_ok {P : Program} {w : World} {K : Kx} {mg : Str → Option Value} {base : Heap} {CX : CXT} {k n : Nat} {f : Addr} {fd : FuncData} {ps : List Str} {mf : Fn} (F : FnOk P w K.k mg base CX k f fd ps (spM n K mf)) : FnOk P w K.k mg base CX k f fd ps (spM n K (gcF mf)) :=
  F.imp fun _ _ _ _ h => gc_sp h
theorem Rf.app0 {α : Type} {o : Option α} {c : C} {s : List Sl} {h : List D} {Φ : α → Fl → Z → Prop} (k : Rf o c ⟨s, h ++ []⟩ Φ) : Rf o c ⟨s, h⟩ Φ := by rwa [List.append_nil] at k
theorem Rf.fnG {α : Type} {o : Option α} {c : C} {s : List Sl} {h : List D} {n k : Nat} {ds : List D} {e : α → D} {r : α} (hl : ds.length = k) (hs : slots n ds = s) (hb : Rf o c ⟨s, h⟩ fun r f z' => (f = .rt (e r) ∨ (f = .nx ∧ e r = .non)) ∧ ∃ ext, z'.h = h ++ ext) (hr : o = some r) : ∃ ext, Mi.fn n k c ds h = some (e r, h ++ ext) := by
  obtain ⟨f, z', e1, e2, ext, e3⟩ := hb r hr
  refine ⟨ext, ?_⟩
  have := Rf.fn (o := o) (c := c) (s := s) (h := h) (e := e) (hp := fun _ => h ++ ext) (r := r) hl hs (fun r' hr' => by
    rw [hr] at hr'
    cases hr'
    exact ⟨f, z', e1, e2, e3⟩) hr
  exact this
/-! ### a list of pairs, each with a list that nobody else names -/
section
variable {α β : Type}
theorem hc_len {e : α → D} {kvs : List (β × List α)} : (hcK e kvs).length = kvs.length := List.length_map _
def shT (e1 : β → D) : Nat → List (β × List α) → List D
  | _, [] => []
  | b, x :: r => .tup [e1 x.1, .ref b] :: shT e1 (b + 1) r
theorem shT_snoc {e1 : β → D} {x : β × List α} : ∀ {xs : List (β × List α)} {b : Nat}, shT e1 b (xs ++ [x]) = shT e1 b xs ++ [.tup [e1 x.1, .ref (b + xs.length)]]
  | [], b => rfl
  | y :: r, b => by
    show _ :: shT e1 (b + 1) (r ++ [x]) = _
    rw [shT_snoc]
    show _ = _ :: _
    simp only [List.length_cons, List.cons_append]
    rw [show b + 1 + r.length = b + (r.length + 1) by omega]
    rfl
theorem shT_len {e1 : β → D} : ∀ {xs : List (β × List α)} {b : Nat}, (shT e1 b xs).length = xs.length
  | [], b => rfl
  | y :: r, b => by rw [shT, List.length_cons, shT_len, List.length_cons]
def Pl.tlNew (xs : List (β × List α)) (o : β) (v : α) : Option (List (β × List α)) := if xs.length < szl then some (xs ++ [(o, [v])]) else none
def Pl.tlLast (xs : List (β × List α)) (v : α) : Option (List (β × List α)) := match xs.getLast? with
  | some x => if x.2.length < szl then some (xs.dropLast ++ [(x.1, x.2 ++ [v])]) else none
  | none => none
theorem Rf.tlNew {γ : Type} {rest : C} {Φ : γ → Fl → Z → Prop} {i : Nat} {m1 m2 : M D} {s : List Sl} {h : List D} {xs : List (β × List α)} {o : β} {v : α} {K : List (β × List α) → Option γ} (e1 : β → D) (e : α → D)
    (hi : s[i]? = some (.own (.lst (shT e1 h.length xs)))) {s' : List (β × List α) → List Sl} (hs : ∀ ys, s.set i (.own (.lst (shT e1 h.length ys))) = s' ys) (h1 : m1 ⟨s, h ++ hcK e xs⟩ = some (e1 o, ⟨s, h ++ hcK e xs⟩)) (h2 : m2 ⟨s, h ++ hcK e xs⟩ = some (e v, ⟨s, h ++ hcK e xs⟩))
    (hp1 : isPure (e1 o) = true) (hp : isPure (e v) = true) (k : ∀ r, Rf (K r) rest ⟨s' r, h ++ hcK e r⟩ Φ) :
    Rf ((Pl.tlNew xs o v).bind K) (C.seq (C.drop (E.chg U.append (E.var i) [E.tup [m1, E.shr (N.disp [m2])]])) rest) ⟨s, h ++ hcK e xs⟩ Φ := by
  refine Rf.bd fun r hr => ?_
  unfold Pl.tlNew at hr
  split at hr
  · rename_i c1
    cases hr
    have hv : E.var i ⟨s, h ++ hcK e xs⟩ = some (.own i, ⟨s, h ++ hcK e xs⟩) := by
      unfold E.var
      dsimp only
      rw [hi]
    have hl : (h ++ hcK e xs).length = h.length + xs.length := by rw [List.length_append, hc_len]
    have hsh : E.shr (N.disp [m2]) ⟨s, h ++ hcK e xs⟩ = some (.ref (h.length + xs.length), ⟨s, h ++ (hcK e xs ++ [.lst [e v]])⟩) := by
      unfold E.shr
      rw [bnd, ev_disp (ev_args h2 ev_args0 hp)]
      dsimp only
      rw [hl, List.append_assoc]
    have htp : E.tup [m1, E.shr (N.disp [m2])] ⟨s, h ++ hcK e xs⟩ = some (.tup [e1 o, .ref (h.length + xs.length)], ⟨s, h ++ (hcK e xs ++ [.lst [e v]])⟩) := ev_tup (ev_args h1 (ev_args hsh ev_args0 rfl) hp1)
    have ev : E.chg U.append (E.var i) [E.tup [m1, E.shr (N.disp [m2])]] ⟨s, h ++ hcK e xs⟩ = some (.non, ⟨s' (xs ++ [(o, [v])]), h ++ hcK e (xs ++ [(o, [v])])⟩) := by
      unfold E.chg
      rw [bnd, hv]
      dsimp only
      rw [if_pos (show E.isLst (.own i) ⟨s, h ++ hcK e xs⟩ = true by unfold E.isLst cont; dsimp only; rw [hi]; rfl)]
      rw [bnd, ev_args htp ev_args0 rfl]
      dsimp only
      unfold E.chgF
      dsimp only
      rw [hi]
      dsimp only
      unfold U.append
      dsimp only
      rw [if_pos (by rw [shT_len]; exact c1)]
      dsimp only
      rw [← shT_snoc (x := (o, [v])), hs]
      unfold hcK
      rw [List.map_append]
      rfl
    exact Rf.drop ev (k _)
  · cases hr
theorem Rf.tlLast {γ : Type} {rest : C} {Φ : γ → Fl → Z → Prop} {i : Nat} {mi mj mv : M D} {s : List Sl} {h : List D} {xs : List (β × List α)} {v : α} {K : List (β × List α) → Option γ} (e1 : β → D) (e : α → D)
    (hi : s[i]? = some (.own (.lst (shT e1 h.length xs)))) {s' : List (β × List α) → List Sl} (hs : ∀ ys, s.set i (.own (.lst (shT e1 h.length ys))) = s' ys) (hmi : mi ⟨s, h ++ hcK e xs⟩ = some (.int (-1), ⟨s, h ++ hcK e xs⟩)) (hmj : mj ⟨s, h ++ hcK e xs⟩ = some (.int 1, ⟨s, h ++ hcK e xs⟩))
    (h2 : mv ⟨s, h ++ hcK e xs⟩ = some (e v, ⟨s, h ++ hcK e xs⟩)) (hp : isPure (e v) = true) (k : ∀ r, Rf (K r) rest ⟨s' r, h ++ hcK e r⟩ Φ) :
    Rf ((Pl.tlLast xs v).bind K) (C.seq (C.drop (E.chg U.append (E.op O.ix (E.op O.ix (E.var i) mi) mj) [mv])) rest) ⟨s, h ++ hcK e xs⟩ Φ := by
  refine Rf.bd fun r hr => ?_
  unfold Pl.tlLast at hr
  split at hr
  · rename_i x hx
    split at hr
    · rename_i c1
      cases hr
      obtain ⟨ys, rfl⟩ := List.getLast?_eq_some_iff.mp hx
      obtain ⟨o, l⟩ := x
      rw [List.dropLast_concat]
      have hil := (List.getElem?_eq_some_iff.mp hi).1
      have hv : E.var i ⟨s, h ++ hcK e (ys ++ [(o, l)])⟩ = some (.own i, ⟨s, h ++ hcK e (ys ++ [(o, l)])⟩) := by
        unfold E.var
        dsimp only
        rw [hi]
      have hc0 : cont (.own i) ⟨s, h ++ hcK e (ys ++ [(o, l)])⟩ = some (false, shT e1 h.length (ys ++ [(o, l)])) := by
        unfold cont
        dsimp only
        rw [hi]
      have at1 : atI (shT e1 h.length (ys ++ [(o, l)])) (-1) = some (.tup [e1 o, .ref (h.length + ys.length)]) := by
        rw [shT_snoc]
        exact at_last
      have e1' := ev_ix hv hmi hc0 at1
      have e2' := ev_ix (i := 1) (d := .ref (h.length + ys.length)) e1' hmj (show cont (.tup [e1 o, .ref (h.length + ys.length)]) _ = some (true, [e1 o, .ref (h.length + ys.length)]) from rfl) (atI_nat (j := 1) rfl)
      have q1 : (hcK e (ys ++ [(o, l)]))[ys.length]? = some (.lst (l.map e)) := by
        unfold hcK
        rw [List.map_append, List.getElem?_append_right (by rw [List.length_map]; exact Nat.le_refl _), List.length_map, Nat.sub_self]
        rfl
      have hc : cont (.ref (h.length + ys.length)) ⟨s, h ++ hcK e (ys ++ [(o, l)])⟩ = some (false, l.map e) := cont_ref (get_at q1)
      have es : s' (ys ++ [(o, l ++ [v])]) = s := by
        rw [← hs, shT_snoc]
        refine List.ext_getElem? fun j => ?_
        by_cases c : i = j
        · subst c; rw [List.getElem?_set_self hil, hi, shT_snoc]
        · rw [List.getElem?_set_ne c]
      have ev : E.chg U.append (E.op O.ix (E.op O.ix (E.var i) mi) mj) [mv] ⟨s, h ++ hcK e (ys ++ [(o, l)])⟩ = some (.non, ⟨s' (ys ++ [(o, l ++ [v])]), h ++ hcK e (ys ++ [(o, l ++ [v])])⟩) := by
        unfold E.chg
        rw [bnd, e2']
        dsimp only
        rw [if_pos (show E.isLst (.ref (h.length + ys.length)) ⟨s, h ++ hcK e (ys ++ [(o, l)])⟩ = true by unfold E.isLst; dsimp only; rw [hc]; rfl)]
        rw [bnd, ev_args h2 ev_args0 hp]
        dsimp only
        unfold E.chgF
        dsimp only
        rw [get_at q1]
        dsimp only
        unfold U.append
        dsimp only
        rw [if_pos (by rw [List.length_map]; exact c1)]
        dsimp only
        rw [set_at, es]
        unfold hcK
        rw [List.map_append, List.map_append, List.set_append_right _ _ (by rw [List.length_map]; exact Nat.le_refl _), List.length_map, Nat.sub_self, show List.map e l ++ [e v] = List.map e (l ++ [v]) by rw [List.map_append]; rfl]
        rfl
      exact Rf.drop ev (k _)
    · cases hr
  · cases hr
/-- what stands where -/
inductive Al2 {α β : Type} (P : α → β → Prop) : List α → List β → Prop
  | nil : Al2 P [] []
  | cons {x : α} {y : β} {xs : List α} {ys : List β} : P x y → Al2 P xs ys → Al2 P (x :: xs) (y :: ys)
theorem Al2.length {α β : Type} {P : α → β → Prop} {xs : List α} {ys : List β} (h : Al2 P xs ys) : xs.length = ys.length := by
  induction h with
  | nil => rfl
  | cons _ _ ih => rw [List.length_cons, List.length_cons, ih]
theorem shT_al {e1 : β → D} {e : α → D} {h : List D} : ∀ {xs : List (β × List α)} {pre : List D}, Al2 (fun x d => ∃ n, d = D.tup [e1 x.1, .ref n] ∧ (h ++ (pre ++ hcK e xs))[n]? = some (.lst (x.2.map e))) xs (shT e1 (h.length + pre.length) xs)
  | [], pre => .nil
  | x :: r, pre => by
    rw [shT]
    refine .cons ⟨_, rfl, get_at ?_⟩ ?_
    · rw [List.getElem?_append_right (Nat.le_refl _), Nat.sub_self]; rfl
    · have ih := shT_al (e1 := e1) (e := e) (h := h) (xs := r) (pre := pre ++ [.lst (x.2.map e)])
      have ea : pre ++ [D.lst (x.2.map e)] ++ hcK e r = pre ++ hcK e (x :: r) := by rw [List.append_assoc]; rfl
      rw [ea, List.length_append, show h.length + (pre.length + [D.lst (x.2.map e)].length) = h.length + pre.length + 1 by simp only [List.length_singleton]; omega] at ih
      exact ih
theorem shT_al0 {e1 : β → D} {e : α → D} {h : List D} {xs : List (β × List α)} : Al2 (fun x d => ∃ n, d = D.tup [e1 x.1, .ref n] ∧ (h ++ hcK e xs)[n]? = some (.lst (x.2.map e))) xs (shT e1 h.length xs) := shT_al (pre := [])
end
/-! ### blocks over things that stand in a relation to data -/
section
variable {α β : Type} {z z1 : Z} {s s' s2 : List Sl} {h : List D}
theorem cmp_loopR {it : It} {g : G} {vs : List Nat} {tt : M Bool} {te : M D} {t : α → Option Bool} {f : α → Option β} {P : α → D → Prop} (e' : β → D) (ok : it.ok ⟨s', h⟩ = true)
    (step : ∀ x d, P x d → ∃ za sa, g.run d ⟨s', h⟩ = some za ∧ (∀ b, t x = some b → tt za = some (b, ⟨sa, h⟩)) ∧ N.wipe sa vs = s' ∧ (∀ y, f x = some y → ∃ sb, te ⟨sa, h⟩ = some (e' y, ⟨sb, h⟩) ∧ isPure (e' y) = true ∧ N.wipe sb vs = s')) :
    ∀ {xs : List α} {ds : List D}, Al2 P xs ds → ∀ (acc : List D) (ys : List β), Pl.cmp t f xs = some ys → N.loop it g vs tt te ds acc ⟨s', h⟩ = some (acc ++ ys.map e', ⟨s', h⟩) := by
  intro xs ds hp
  induction hp with
  | nil =>
    intro acc ys q
    cases q
    rw [N.loop, if_pos ok, List.map_nil, List.append_nil]
  | @cons x d xs ds hx _ ih =>
    intro acc ys q
    obtain ⟨za, sa, g1, t1, w1, f1⟩ := step x d hx
    obtain ⟨b, q1, q2⟩ := bI (show (t x).bind _ = some ys from q)
    rw [N.loop, if_pos ok, g1]
    dsimp only
    rw [t1 b q1]
    cases b with
    | false =>
      dsimp only
      rw [w1]
      exact ih acc ys q2
    | true =>
      obtain ⟨y, q3, q4⟩ := bI (show (f x).bind _ = some ys from q2)
      obtain ⟨ys2, q5, q6⟩ := bI q4
      cases q6
      obtain ⟨sb, f2, f3, f4⟩ := f1 y q3
      dsimp only
      rw [f2]
      dsimp only
      rw [if_pos f3, f4, ih _ ys2 q5, List.append_assoc]
      rfl
theorem ev_cmpR {mi : M It} {chk : Option D} {g : G} {vs : List Nat} {tt : M Bool} {te : M D} {t : α → Option Bool} {f : α → Option β} {xs : List α} {ds : List D} {ys : List β} {P : α → D → Prop} (e' : β → D) (hm : mi z = some (⟨ds, chk⟩, ⟨s, h⟩)) (hP : Al2 P xs ds) (ho : (vs.all fun v => !N.isOwn s[v]?) = true) (hw : N.wipe s vs = s') (ok : (⟨ds, chk⟩ : It).ok ⟨s', h⟩ = true) (hr : N.rest s s' vs = s2)
    (step : ∀ x d, P x d → ∃ za sa, g.run d ⟨s', h⟩ = some za ∧ (∀ b, t x = some b → tt za = some (b, ⟨sa, h⟩)) ∧ N.wipe sa vs = s' ∧ (∀ y, f x = some y → ∃ sb, te ⟨sa, h⟩ = some (e' y, ⟨sb, h⟩) ∧ isPure (e' y) = true ∧ N.wipe sb vs = s'))
    (q : Pl.comp t f xs = some ys) : N.comp mi g vs tt te z = some (ys.map e', ⟨s2, h⟩) := by
  unfold Pl.comp at q
  split at q
  · rename_i hl
    have k := cmp_loopR e' ok step hP [] ys q
    rw [List.nil_append] at k
    exact ev_compN hm (by rw [← hP.length]; exact hl) ho hw k hr
  · cases q
end
/-! ### shared dicts -/
section
variable {α β κ : Type} [DecidableEq κ] {m a b : M D} {rest : C} {y : D} {z z1 z2 : Z} {s : List Sl} {h : List D} {Φ : α → Fl → Z → Prop}
theorem Rf.dputRT {n : Nat} {Y : TEnc κ} {kvs : List (κ × β)} {k0 : κ} {v : β} {K : List (κ × β) → Option α} (e : β → D) (he : m z = some (e v, z1)) (ha : a z1 = some (.ref n, z2)) (hb : b z2 = some (y, ⟨s, h⟩)) (hn : h[n]? = some (eT Y e kvs)) (hk : keyT y = some (Y.k k0)) (hp : isPure (e v) = true) {h' : List (κ × β) → List D} (hs : ∀ r, h.set n (eT Y e r) = h' r)
    (k : ∀ r, Rf (K r) rest ⟨s, h' r⟩ Φ) : Rf ((Pl.dput kvs k0 v).bind K) (C.seq (C.dput a b m) rest) z Φ := Rf.bd fun r hr => (k r).nx ((cs_dputR he ha hb hn (dpT hk hr) hp).trans (by rw [hs]))
end
end Mi

set_option Elab.async false
set_option linter.all false
set_option maxRecDepth 100000
set_option maxHeartbeats 400000
/-! Mi, part Dm: a def's value that is a new list of nobody's: the caller may own it. -/
namespace Mi
open PySem PySem.Spec PyProof.Rows L2
section
variable {K : Kx} {B : Bs} {F F' F0 : Hp} {rho : List Addr} {om : Nat → Option Addr} {s : List Sl} {h h1 : List D} {σ σ0 : L2.St} {H H0 : Hp} {p : Addr} {d : D}
/-- the last object of the shared heap is nobody's from then on -/
theorem Rl.letgo (R0 : Rl K B F0 rho om ⟨s, h⟩ σ0 H0) (R : Rl K B F (rho ++ [p]) om ⟨s, h1 ++ [d]⟩ σ H) (hl : h1.length = h.length) (c : ∀ (i : Nat) (x : D), h1[i]? = some x → h[i]? = some x ∨ blw 12 h.length x = true) :
    Rl K B F rho om ⟨s, h1⟩ σ H ∧ Fresh K B F rho om H p := by
  have last : (rho ++ [p])[rho.length]? = some p := by rw [List.getElem?_append_right (Nat.le_refl _), Nat.sub_self]; rfl
  have up : ∀ {n : Nat} {a : Addr}, rho[n]? = some a → (rho ++ [p])[n]? = some a := fun {n a} e => by rw [List.getElem?_append_left (List.getElem?_eq_some_iff.mp e).1]; exact e
  have fp : F p = none := R.rh.nf _ _ last
  have ne : ∀ {n : Nat} {a : Addr}, rho[n]? = some a → a ≠ p := fun {n a} e c => by
    have h1 := R.rh.inj _ _ _ (up e) (show (rho ++ [p])[rho.length]? = some a by rw [c]; exact last)
    have h2 := (List.getElem?_eq_some_iff.mp e).1
    omega
  have no : ∀ {i : Nat} {a : Addr}, om i = some a → a ≠ p := fun {i a} e c => R.orr i rho.length a e (by rw [c]; exact last)
  have hlen : h.length = rho.length := R0.rh.len
  refine ⟨⟨⟨R.rh.fro, hl.trans hlen, fun n d2 a h1' h2 => ?_, fun i j a h1 h2 => R.rh.inj i j a (up h1) (up h2), fun n a e => R.rh.nf n a (up e), R.rh.tb, fun q hq n e => R.rh.tr q hq n (up e)⟩, R.len, fun i x e => ?_, R.oj, fun i n a e e2 => R.orr i n a e (up e2), R.off, R.oth, R.frm, R.exf, R0.exr, R.nF, fun n a e => R.nr n a (up e), R.no, fun i a e => R.ow i a e, R.to, R.mt⟩,
    ⟨fp, fun n e => ne e rfl, fun i e => no e rfl, R.nr _ _ last, ?_, fun q hq e => R.rh.tr q hq _ (by rw [e]; exact last)⟩⟩
  · have hl1 : n < h1.length := (List.getElem?_eq_some_iff.mp h1').1
    have o := R.rh.obs n d2 a (by show (h1 ++ [d])[n]? = some d2; rw [List.getElem?_append_left hl1]; exact h1') (up h2)
    rcases c n d2 h1' with q | q
    · exact Ob.short (t := [p]) (R0.rh.obs n d2 a q h2) o
    · exact Ob.blw hlen.symm q o
  · have q0 := R0.sl i x e
    have q := R.sl i x e
    cases x with
    | no => trivial
    | val d2 =>
      obtain ⟨v0, _, r0⟩ := q0
      obtain ⟨v, e1, r⟩ := q
      exact ⟨v, e1, r0.short r⟩
    | own d2 =>
      obtain ⟨a0, _, _, r0⟩ := q0
      obtain ⟨a, e1, e2, r⟩ := q
      exact ⟨a, e1, e2, Ob.short r0 r⟩
  · obtain ⟨o, h2, nt⟩ := R.rh.there (z := ⟨s, h1 ++ [d]⟩) last
    exact ⟨o, h2, nt⟩
end
open Classical in
noncomputable def callV (h : List D) : Option (D × List D) → Option (List D × List D)
  | some (.ref n, h') => match h'[h.length]? with
    | some (.lst ds) => if n = h.length ∧ h'.length = h.length + 1 ∧ ds.all (blw 11 h.length) = true ∧ (∀ (i : Nat) (x : D), i < h.length → h'[i]? = some x → (h[i]? = some x ∨ blw 12 h.length x = true)) then some (ds, h'.take h.length) else none
    | _ => none
  | _ => none
namespace N
noncomputable def callF (mf : Fn) (ms : List (M D)) : M (List D) := bnd (E.args ms) fun xs z => match callV z.h (mf xs z.h) with
  | some (ds, h') => some (ds, ⟨z.s, h'⟩)
  | none => none
end N
theorem callF_go {K : Kx} {n : Nat} {mf : Fn} {ms : List (M D)} {es : List Expr} {XE : XK} (hn : ms.length = n) : ∀ σ H Q, Tf K (N.callF mf ms) σ H Q → tCall (spM n K mf) [] XE (Ta K (E.args ms)) σ H Q := by
  rintro σ H Q ⟨B, F, rho, om, z, g⟩
  refine (g.bnd.imp fun _ _ H1 _ _ vs _ _ _ _ _ ⟨F2, rho2, z2, xs, eg1, s1, p1, r1, g1⟩ => ?_).tx (R := rA K)
  obtain ⟨R, d, z4, e, k⟩ := g1
  dsimp only at e
  split at e
  · rename_i ds h1 hc
    cases e
    unfold callV at hc
    split at hc
    · rename_i m h' hd
      split at hc
      · rename_i ds' hds
        split at hc
        · rename_i cc
          obtain ⟨c1, c2, c3, c4⟩ := cc
          cases hc
          subst c1
          rw [List.append_nil]
          have hx := args_len eg1
          refine ⟨by rw [← r1.length, hx, hn], F2, rho2, z2.h, xs, R.rh, r1, _, _, hd, fun F' rho' H' v e1 e2 r fr nf nr q => ?_⟩
          have R4 := R.called e1 e2 r fr nf nr
          obtain ⟨ps, rfl⟩ := e2
          have hlen : z2.h.length = rho2.length := R.rh.len
          have hl2 : (rho2 ++ ps).length = z2.h.length + 1 := by rw [← r.len, c2]
          obtain ⟨p, rfl⟩ : ∃ p, ps = [p] := by
            rw [List.length_append] at hl2
            match ps, hl2 with
            | [], h => simp at h; omega
            | [p], _ => exact ⟨p, rfl⟩
            | _ :: _ :: _, h => simp at h; omega
          have eh : h' = h'.take z2.h.length ++ [.lst d] := by
            have h5 : h'.drop z2.h.length = [.lst d] := by
              rw [List.drop_eq_getElem_cons (by omega), List.drop_eq_nil_of_le (by omega)]
              rw [List.getElem?_eq_getElem (by omega)] at hds
              rw [Option.some.inj hds]
            rw [← h5, List.take_append_drop]
          rw [eh] at R4
          have ht : (h'.take z2.h.length).length = z2.h.length := by rw [List.length_take]; omega
          obtain ⟨R5, f5⟩ := Rl.letgo (s := z2.s) (h := z2.h) R R4 ht fun i x hx => by
            have hi : i < z2.h.length := by have := (List.getElem?_eq_some_iff.mp hx).1; omega
            rw [List.getElem?_take_of_lt hi] at hx
            exact c4 i x hi hx
          have last : (rho2 ++ [p])[z2.h.length]? = some p := by rw [hlen, List.getElem?_append_right (Nat.le_refl _), Nat.sub_self]; rfl
          obtain ⟨vs2, o1, o2⟩ := r.obs z2.h.length (.lst d) p hds last
          have hv : v = .ref p := by
            cases q with
            | ref q => rw [last] at q; cases q; rfl
          subst hv
          exact k F' rho2 H' _ e1 (List.prefix_refl _) R5 ⟨p, vs2, rfl, o1, f5, Rps.conv1 (fun d hd v r => r.blw hlen.symm 11 (List.all_eq_true.mp c3 d hd)) o2⟩
        · cases hc
      · cases hc
    · cases hc
  · cases e
section
variable {X : Cx} {Tb : Tbs}
theorem mf_call {k : Nat} {f : Addr} {fd : FuncData} {ps : List Str} {n : Nat} {mf : Fn} {x : Str} {p pos : Pos} {e : Expr} {es : List Expr} {ms : List (M D)} (G : FnOk X.prog X.w X.K X.mg X.base CX0 k f fd ps (spM n (kx X Tb) mf)) (hr : Room k X.A) (hg : Gl X x) (hm : X.mg x = some (.ref f))
    (hk : PySem.W.keepIn X.K (.ref f) = true) (hb : Binds X.K fd ps []) (ha : PA X (e :: es) (Ta (kx X Tb) (E.args ms))) (hn : ms.length = n := by rfl) (hdb : (x == ("__debug__" : Str)) = false := by decide) (he : starEach (e :: es) X.env = (false, eval e X.env) :: starEach es X.env := by rfl)
    (hpl : (backTo pos (starEach es X.env)).any (·.1) = false := by rfl) : PE X (.Call (.Name x p) (e :: es) [] pos) (Tf (kx X Tb) (N.callF mf ms)) :=
  pe_imp (pe_call G hr hg hm hk hb .nil pass0 ha hdb he hpl) (callF_go (es := es) hn)
end
section
variable {α : Type} {z : Z} {s : List Sl} {h h1 : List D}
theorem ev_callF {mf : Fn} {as : List (M D)} {xs ds : List D} (e1 : E.args as z = some (xs, ⟨s, h⟩)) (e2 : mf xs h = some (.ref h.length, h1 ++ [.lst ds])) (hl : h1.length = h.length) (hd : ds.all (blw 11 h.length) = true) (c : ∀ (i : Nat) (x : D), h1[i]? = some x → h[i]? = some x ∨ blw 12 h.length x = true) : N.callF mf as z = some (ds, ⟨s, h1⟩) := by
  unfold N.callF
  rw [bnd_of e1]
  dsimp only
  rw [e2]
  unfold callV
  dsimp only
  rw [← hl, List.getElem?_append_right (Nat.le_refl _), Nat.sub_self]
  dsimp only [List.getElem?_cons_zero]
  rw [if_pos ⟨rfl, by rw [List.length_append]; rfl, by rw [hl]; exact hd, fun i x hi hx => by
    rw [List.getElem?_append_left hi] at hx
    rw [hl]
    exact c i x hx⟩, List.take_left]
theorem Rf.retSh {β : Type} {Φ : β → Fl → Z → Prop} {rest : C} {n : Nat} {m : M D} {ds : List D} {r : β} (he : m z = some (.own n, ⟨s, h⟩)) (hn : s[n]? = some (.own (.lst ds))) (q : Φ r (.rt (.ref h.length)) ⟨s.set n .no, h ++ [.lst ds]⟩) : Rf (some r) (C.seq (C.retS m) rest) z Φ := fun r' e => by
  cases e
  exact ⟨_, _, cs_rt (cs_retS he hn), q⟩
theorem all_blE {n k m : Nat} {e : α → D} (b : BlE n e) (hk : n ≤ k) (xs : List α) : (xs.map e).all (blw k m) = true := by
  rw [List.all_map]
  exact List.all_eq_true.mpr fun x _ => blw_mono (b x m) hk
/-- .. by draws -/
theorem ev_callS {mf : Fn} {as : List (M D)} {xs : List D} {r : List α × DS} {sd : DS} {tl : List D} {e : α → D} {n : Nat} (e1 : E.args as z = some (xs, ⟨s, stT sd tl⟩)) (e2 : mf xs (stT sd tl) = some (.ref (stT sd tl).length, stT r.2 tl ++ [.lst (r.1.map e)])) (b : BlE n e) (hn : n ≤ 11 := by decide) : N.callF mf as z = some (r.1.map e, ⟨s, stT r.2 tl⟩) := by
  refine ev_callF e1 e2 rfl (all_blE b hn _) fun i x hx => ?_
  match i with
  | 0 =>
    right
    cases hx
    show blw 12 _ (.lst (r.2.cells.map D.int)) = true
    simp only [blw, List.all_map]
    exact List.all_eq_true.mpr fun y _ => by simp [blw]
  | 1 =>
    right
    cases hx
    show blw 12 (stT sd tl).length (.lst [.ref 0, .int r.2.seed]) = true
    simp [blw, stT]
  | i + 2 => exact .inl hx
theorem ev_callP {mf : Fn} {as : List (M D)} {xs : List D} {r : List α} {e : α → D} {n : Nat} (e1 : E.args as z = some (xs, ⟨s, h⟩)) (e2 : mf xs h = some (.ref h.length, h ++ [.lst (r.map e)])) (b : BlE n e) (hn : n ≤ 11 := by decide) : N.callF mf as z = some (r.map e, ⟨s, h⟩) :=
  ev_callF e1 e2 rfl (all_blE b hn _) fun i x hx => .inl hx
end
/-! ### a, b, c = xs -/
section
variable {α : Type} {m : M D} {z z1 : Z} {e : α → D} {xs : List α}
def Pl.un2 : List α → Option (α × α)
  | [a, b] => some (a, b)
  | _ => none
def Pl.un3 : List α → Option (α × α × α)
  | [a, b, c] => some (a, b, c)
  | _ => none
def Pl.un4 : List α → Option (α × α × α × α)
  | [a, b, c, d] => some (a, b, c, d)
  | _ => none
theorem ev_un2 {r : α × α} (h1 : m z = some (eU e xs, z1)) (hr : Pl.un2 xs = some r) : m z = some (e2 e e r, z1) := by
  unfold Pl.un2 at hr
  split at hr
  · cases hr; exact h1
  · cases hr
theorem ev_un3 {r : α × α × α} (h1 : m z = some (eU e xs, z1)) (hr : Pl.un3 xs = some r) : m z = some (e3 e e e r, z1) := by
  unfold Pl.un3 at hr
  split at hr
  · cases hr; exact h1
  · cases hr
theorem ev_un4 {r : α × α × α × α} (h1 : m z = some (eU e xs, z1)) (hr : Pl.un4 xs = some r) : m z = some (e4 e e e e r, z1) := by
  unfold Pl.un4 at hr
  split at hr
  · cases hr; exact h1
  · cases hr
end
theorem BlE.t5 {α0 α1 α2 α3 α4 : Type} {n : Nat} {x0 : α0 → D} {x1 : α1 → D} {x2 : α2 → D} {x3 : α3 → D} {x4 : α4 → D} (h0 : BlE n x0) (h1 : BlE n x1) (h2 : BlE n x2) (h3 : BlE n x3) (h4 : BlE n x4) : BlE (n + 1) (e5 x0 x1 x2 x3 x4) := fun x m => blw_tup fun d hd => by
  simp only [List.mem_cons, List.not_mem_nil, or_false] at hd
  rcases hd with rfl | rfl | rfl | rfl | rfl
  · exact h0 _ m
  · exact h1 _ m
  · exact h2 _ m
  · exact h3 _ m
  · exact h4 _ m
theorem BlE.t6 {α0 α1 α2 α3 α4 α5 : Type} {n : Nat} {x0 : α0 → D} {x1 : α1 → D} {x2 : α2 → D} {x3 : α3 → D} {x4 : α4 → D} {x5 : α5 → D} (h0 : BlE n x0) (h1 : BlE n x1) (h2 : BlE n x2) (h3 : BlE n x3) (h4 : BlE n x4) (h5 : BlE n x5) : BlE (n + 1) (e6 x0 x1 x2 x3 x4 x5) := fun x m => blw_tup fun d hd => by
  simp only [List.mem_cons, List.not_mem_nil, or_false] at hd
  rcases hd with rfl | rfl | rfl | rfl | rfl | rfl
  · exact h0 _ m
  · exact h1 _ m
  · exact h2 _ m
  · exact h3 _ m
  · exact h4 _ m
  · exact h5 _ m
theorem BlE.t7 {α0 α1 α2 α3 α4 α5 α6 : Type} {n : Nat} {x0 : α0 → D} {x1 : α1 → D} {x2 : α2 → D} {x3 : α3 → D} {x4 : α4 → D} {x5 : α5 → D} {x6 : α6 → D} (h0 : BlE n x0) (h1 : BlE n x1) (h2 : BlE n x2) (h3 : BlE n x3) (h4 : BlE n x4) (h5 : BlE n x5) (h6 : BlE n x6) : BlE (n + 1) (e7 x0 x1 x2 x3 x4 x5 x6) := fun x m => blw_tup fun d hd => by
  simp only [List.mem_cons, List.not_mem_nil, or_false] at hd
  rcases hd with rfl | rfl | rfl | rfl | rfl | rfl | rfl
  · exact h0 _ m
  · exact h1 _ m
  · exact h2 _ m
  · exact h3 _ m
  · exact h4 _ m
  · exact h5 _ m
  · exact h6 _ m
theorem ev_as {m : M D} {z z1 : Z} {d d' : D} (h : m z = some (d', z1)) (e : d' = d) : m z = some (d, z1) := by subst e; exact h
end Mi

set_option Elab.async false
set_option linter.all false
set_option maxRecDepth 100000
set_option maxHeartbeats 400000
/-! Mi, part Dn: sorted of a tuple, and of rows of ints; a list of the def's own whose lists stand in the shared heap. -/
namespace PySem.W
open PySem PySem.Calls PyProof.Rows
section
variable {prog : Program} {w : World} {A : Around} {E : Value → Shared → Prop} {s : Shared} {κ : PyProof.Rows.KeyKind}
theorem tup_eq_list : (Value.type "tuple" == Value.type "tuple") = true := rfl
theorem collect_tup {l : Addr} {vs : List Value} {Q : List Value → Shared → Prop} (hl : IsTup s.heap l vs.toArray)
    (h : Q vs { s with heap := (s.heap.push (seqObj "list" #[] 0)).update s.heap.objs.size (Obj.mapSeq (· ++ vs.toArray)) }) (hsz : vs.length ≤ sizeLine := by size_fits) :
    wpAny (model prog w) A (collect (.ref l)) Q E s := by
  obtain ⟨o, ho, hc, n, hd⟩ := id hl
  unfold collect
  refine wpAny_bind (wpAny_runValue (codeAny_builtin entry_proto_collect' ?_))
  show wpAny _ _ (do again (.builtin "list.__iadd__" ⟨[← newList [], .ref l], []⟩)) _ _ s
  refine wpAny_bind (wpAny_newList (wpAny_pure ⟨Code.quiet_builtin _ (by decide +kernel), codeAny_builtin entry_list_iadd' ?_⟩))
  show wpAny _ _ (Builtin.List.listExtendWith (.ref s.heap.objs.size) (.ref l) (.ref s.heap.objs.size)) _ _ { s with heap := s.heap.push (seqObj "list" #[] 0) }
  unfold Builtin.List.listExtendWith
  have ho' : (s.heap.push (seqObj "list" #[] 0)).get? l = some o := Heap.get?_push_of_some _ ho
  refine wpAny_bind (wpAny_typeOf (T := "tuple") ⟨o, ho', hc⟩ ?_)
  rw [if_pos (by rw [tup_eq_list]; simp)]
  refine wpAny_bind (listItems_at ho' hd ?_)
  refine wpAny_bind (listItems_at (xs := #[]) (n := 0) (Heap.get?_push_size _ rfl) rfl ?_)
  rw [if_neg (by simp)]
  refine wpAny_bind (listUpdate_at (xs := #[]) (n := 0) (Heap.get?_push_size _ rfl) rfl ?_ (Nat.zero_le _) (by show (#[] ++ vs.toArray).size ≤ sizeLine + 1; simp only [Array.size_append, List.size_toArray, List.length_nil]; omega))
  refine wpAny_pure ?_
  show wpAny (model prog w) A (do
      let o ← load s.heap.objs.size
      match o.data with
      | .seq xs _ => pure xs.toList
      | _ => unsupported "internal:collect") Q E { s with heap := (s.heap.push (seqObj "list" #[] 0)).update s.heap.objs.size (Obj.mapSeq (· ++ vs.toArray)) }
  refine wpAny_bind (wpAny_load (get?_update_seq (Heap.get?_push_size _ rfl) _) ?_)
  show wpAny _ _ (pure ((#[] : Array Value) ++ vs.toArray).toList) Q E _
  rw [show ((#[] : Array Value) ++ vs.toArray).toList = vs by simp]
  exact wpAny_pure h
theorem sorted_of_sortU {l : Addr} {vs : List Value} {kw : List (Str × Value)} {Q : Value → Shared → Prop} (hl : IsTup s.heap l vs.toArray) (hL : vs.length ≤ sizeLine) (ha1 : argsOk "sorted" ⟨[.ref l], kw⟩) (ha2 : ∀ x, argsOk "list.sort" ⟨[.ref x], kw⟩)
    (body : ∀ E' : Value → Shared → Prop, wpAny (model prog w) A.in1.in1 (Builtin.«list.sort» ⟨[.ref (s.heap.objs.size + 1)], kw⟩) (fun f s' => f = .done (.ret .none) ∧ Q (.ref (s.heap.objs.size + 1)) s') E' { s with heap := copyHeap s.heap vs }) :
    wpAny (model prog w) A (call (.builtin "sorted") [.ref l] kw) Q E s := by
  refine call_function_entry_kw kind_sorted plain_sorted entry_sorted ha1 ?_
  unfold Builtin.«sorted»
  refine wpAny_bind (m := checkCount "sorted" 1 1 _) (wpAny_pure ?_)
  refine wpAny_bind (collect_tup hl ?_ hL)
  refine wpAny_bind (wpAny_newList ?_ hL)
  have hsz : ((s.heap.push (seqObj "list" #[] 0)).update s.heap.objs.size (Obj.mapSeq (· ++ vs.toArray))).objs.size = s.heap.objs.size + 1 := by
    rw [Heap.size_update, size_push']
  show wpAny _ _ _ _ _ { s with heap := copyHeap s.heap vs }
  rw [hsz]
  refine wpAny_bind (wpAny_holding (wpAny_call_entry_kw slot_list_sort ⟨_, copyHeap_at s.heap vs, rfl⟩ entry_list_sort ?body (ha2 _)))
  case body =>
    show wpAny (model prog w) A.in1.in1 (Builtin.«list.sort» ⟨[.ref (s.heap.objs.size + 1)], kw⟩) _ _ _
    refine wpAny_mono (body _) (fun f s' hf => ?_) fun _ _ e => e
    obtain ⟨rfl, hq⟩ := hf
    exact ⟨_, rfl, wpAny_pure ⟨_, rfl, hq⟩⟩
theorem sorted_valsU {l : Addr} {vs : List Value} {Q : Value → Shared → Prop} (hl : IsTup s.heap l vs.toArray) (S : SortsAt prog w A.in1.in1 { s with heap := sortingHeap (copyHeap s.heap vs) (s.heap.objs.size + 1) vs } κ vs) (hL : vs.length ≤ sizeLine)
    (h : Q (.ref (s.heap.objs.size + 1)) { s with heap := sortedAll s.heap vs (sortVals κ false vs vs).toArray }) : wpAny (model prog w) A (call (.builtin "sorted") [.ref l]) Q E s :=
  sorted_of_sortU hl hL (args_sorted1 _) (fun _ => args_list_sort _) fun _ => list_sort_vals (s := { s with heap := copyHeap s.heap vs }) (copyHeap_at s.heap vs) S hL ⟨rfl, h⟩
end
section
variable {prog : Program} {w : World} {A : Around} {E : Value → Shared → Prop} {s : Shared} {β : Type} {vs : List Value} {bs : List β} {enc : β → PyData} {R : Value → β → Prop}
theorem sorted_dataU {l : Addr} {Q : Value → Shared → Prop} (hl : IsTup s.heap l vs.toArray) (e : EachIs R vs bs) (er : EachIs (fun v b => ∃ as, Reads s.heap v (enc b) as) vs bs) (hal : AllAlike (bs.map enc)) (hk : Sortable (bs.map enc)) (hL : bs.length ≤ sizeLine)
    (hu : ∀ b, b ∈ bs → A.units + 2 + (enc b).depth < cLine) (h : ∀ out, out.length = bs.length → EachIs R out (bs.mergeSort (dataLe false enc)) → Q (.ref (s.heap.objs.size + 1)) { s with heap := sortedAll s.heap vs (List.toArray out) }) :
    wpAny (model prog w) A (call (.builtin "sorted") [.ref l]) Q E s := by
  have er' : EachIs (fun v b => ∃ as, Reads (sortingHeap (copyHeap s.heap vs) (s.heap.objs.size + 1) vs) v (enc b) as) vs bs := er.mono fun _ _ ⟨as, r⟩ => ⟨as, PyProof.Rows.Reads.keeps (fun _ _ => sorting_copy_old) r⟩
  exact sorted_valsU hl (SortsAt.data (s := { s with heap := sortingHeap (copyHeap s.heap vs) (s.heap.objs.size + 1) vs }) (each_map (R := fun v d => ∃ as, Reads (sortingHeap (copyHeap s.heap vs) (s.heap.objs.size + 1) vs) v d as) enc er') hal hk (bound_map hu)) (by rw [e.length]; exact hL)
    (h _ (by rw [sortVals_length false rfl]; exact e.length) (sortVals_data false e er' hal))
end
end PySem.W
namespace Mi
open PySem PySem.Spec PyProof.Rows L2 PySem.W
/-! ### sorted(t) of a tuple -/
def N.sortedU (m : M D) : M (List D) := bnd m fun x z => match cont x z with
  | some (true, ds) => match O.toPs ds with
    | some ps => if ds.length ≤ szl ∧ srtOk ps = true then some (srt pk ds, z) else none
    | none => none
  | _ => none
def rSrtU (K : PySem.W.Frag) : List V → Hp → VK → Prop := fun vs H Q => ∃ (a : Addr) (xs : List V) (ds : List D) (T : V → D → Prop), vs = [V.ref a] ∧ SqT K H a xs ∧ EachIs (fun x d => Dp K H x (pk d) ∧ T x d) xs ds ∧
  AllAlike (ds.map pk) ∧ PySem.W.Sortable (ds.map pk) ∧ (∀ d ∈ ds, (pk d).depth ≤ 40) ∧ ∀ ys p, EachIs T ys (srt pk ds) → H p = none → Q (.ref p) (upd H p (.lst ys))
section
variable {X : Cx} {Tb : Tbs}
theorem call_srtU (hu : X.A.units + 64 < cLine) : CallR X (.builtin "sorted") (rSrtU X.K) := by
  intro pn st sg Hh args raws Qq Iv rr hyp
  obtain ⟨a, xs, ds, T, rfl, hs, ea, hal, hso, hdp, q⟩ := hyp
  obtain ⟨its, rv, hl, hz⟩ := Iv.tuple hs
  rw [Vals.ref1 rr]
  have e1 : EachIs (fun u d => ∃ x, RelV x u ∧ T x d) its ds := each_raw (fun x d u t r => ⟨x, r, t.2⟩) rv ea
  have e2 : EachIs (fun u d => ∃ as, Reads st.heap u (pk d) as) its ds := each_raw (fun x d u t r => Dp.reads Iv (pk d) x u t.1 r) rv ea
  have lz : ds.length ≤ sizeLine := by rw [← ea.length]; exact hz
  refine PySem.W.sorted_dataU hl e1 e2 hal hso lz (fun d hd => ?_) fun out hlen eo => ?_
  · have := hdp d hd; omega
  · obtain ⟨ys, ry, ey⟩ := each_abs eo
    obtain ⟨ep, hat⟩ := PyProof.Rows.sortedAll_at st.heap its (List.toArray out)
    have yl : ys.length ≤ sizeLine := by rw [ry.length, hlen]; exact lz
    exact ⟨.ref _, upd Hh (st.heap.objs.size + 1) (.lst ys), Iv.laid (t' := st.toks) (fun _ _ => PyProof.Rows.sortedAll_old) (Nat.le_succ _) ⟨yl, out, ep, ry, hat⟩, rfl, q _ _ ey (Iv.hok.fresh (Nat.le_succ _))⟩
theorem mf_sortedU {p pos : Pos} {e : Expr} {m : M D} (hu : X.A.units + 64 < cLine) (hg : Gl X "sorted") (hm : X.mg "sorted" = none) (ha : PE X e (Te (kx X Tb) m)) (hv : bootBuiltins "sorted" = some (.builtin "sorted") := by decide +kernel)
    (he : starEach [e] X.env = (false, eval e X.env) :: starEach [] X.env := by rfl) (hpl : (backTo pos (starEach [] X.env)).any (·.1) = false := by rfl) : PE X (.Call (.Name "sorted" p) [e] [] pos) (Tf (kx X Tb) (N.sortedU m)) := by
  refine pe_imp (pe_callB (call_srtU hu) hg hm hv (pa_cons ha pa_nil he) (by decide) (by decide) he hpl) fun σ H Q ⟨B, F, rho, om, z, g⟩ => ?_
  refine (g.bnd.imp fun _ _ H1 _ _ v _ _ _ _ _ ⟨F2, rho2, z2, x, eg1, s1, p1, r1, g1⟩ => ?_).tx (R := rV (kx X Tb))
  obtain ⟨R, d, z4, e, k⟩ := g1
  dsimp only at e
  split at e
  · rename_i ds hc
    split at e
    · rename_i ps hp
      split at e
      · rename_i c
        cases e
        obtain ⟨a, xs, rfl, q, h⟩ := cont_ok R r1 hc
        obtain ⟨c1, c2⟩ := c
        unfold srtOk at c2
        rw [Bool.and_eq_true, Bool.and_eq_true] at c2
        rw [toPs_pk hp] at c2
        refine ⟨a, xs, ds, fun v d => Rp (kx X Tb) F2 rho2 d v, rfl, ?_, rps_each R.rh.fro hp q, alikeB_ok c2.1.1, sortB_ok c2.1.2, fun d hd => ?_, fun ys l ey hl => ?_⟩
        · rcases h with ⟨h, _⟩ | ⟨_, h⟩
          · cases h
          · exact h
        · exact of_decide_eq_true (List.all_eq_true.mp c2.2 _ (List.mem_map_of_mem hd))
        · obtain ⟨R2, f2⟩ := R.new (o := .lst ys) hl
          exact k F2 rho2 _ _ (Same.refl _) (List.prefix_refl _) R2 ⟨l, ys, rfl, upd_same, f2, each_rps ey⟩
      · cases e
    · cases e
  · cases e
end
/-! ### plain rules for sorted -/
section
variable {α β κ : Type} {a : M D} {x : D} {z z1 : Z}
theorem toPs_rows {e : α → D} (k : α → PyData) (hk : ∀ x, O.toP (e x) = some (k x)) : ∀ xs : List α, O.toPs (xs.map e) = some ((xs.map e).map pk)
  | [] => rfl
  | x :: xs => by
    rw [List.map_cons, O.toPs, hk, toPs_rows k hk xs]
    show some _ = some _
    rw [List.map_cons]
    unfold pk
    rw [hk]
    rfl
theorem pk_of {e : α → D} {k : α → PyData} (hk : ∀ x, O.toP (e x) = some (k x)) (x : α) : pk (e x) = k x := by
  unfold pk
  rw [hk]
  rfl
theorem ev_revP {e : α → D} {xs : List α} (h1 : a z = some (x, z1)) (h2 : cont x z1 = some (false, xs.map e)) : N.rev a z = some (xs.reverse.map e, z1) := by
  rw [ev_rev h1 h2, List.map_reverse]
/-- rows of ints -/
theorem ev_sortedR {e : κ → D} {xs ys : List κ} (k : κ → List Int) (h1 : a z = some (x, z1)) (h2 : cont x z1 = some (false, xs.map e)) (hk : ∀ x, O.toP (e x) = some (.tuple ((k x).map PyData.int))) (hn : ∀ x, k x ≠ []) (hy : (if xs.length ≤ szl then some (xs.mergeSort fun a b => decide (k a ≤ k b)) else none) = some ys) : N.sorted a z = some (ys.map e, z1) := by
  split at hy
  · rename_i hl
    cases hy
    have hk' := pk_of hk
    unfold N.sorted
    rw [bnd, h1]
    dsimp only
    rw [h2]
    dsimp only
    rw [toPs_rows _ hk]
    dsimp only
    rw [if_pos ⟨by rw [List.length_map]; exact hl, srtOk_rows k hk' hn xs⟩, srt_map k hk']
  · cases hy
theorem ev_sortedRU {e : κ → D} {xs ys : List κ} (k : κ → List Int) (h1 : a z = some (x, z1)) (h2 : cont x z1 = some (true, xs.map e)) (hk : ∀ x, O.toP (e x) = some (.tuple ((k x).map PyData.int))) (hn : ∀ x, k x ≠ []) (hy : (if xs.length ≤ szl then some (xs.mergeSort fun a b => decide (k a ≤ k b)) else none) = some ys) : N.sortedU a z = some (ys.map e, z1) := by
  split at hy
  · rename_i hl
    cases hy
    have hk' := pk_of hk
    unfold N.sortedU
    rw [bnd, h1]
    dsimp only
    rw [h2]
    dsimp only
    rw [toPs_rows _ hk]
    dsimp only
    rw [if_pos ⟨by rw [List.length_map]; exact hl, srtOk_rows k hk' hn xs⟩, srt_map k hk']
  · cases hy
theorem toPs_ints : ∀ xs : List Int, O.toPs (xs.map D.int) = some ((xs.map D.int).map pk) := fun xs => toPs_rows (e := D.int) (fun i => .int i) (fun _ => rfl) xs
theorem dataLe_int (i j : Int) : PySem.W.dataLe false pk (.int i) (.int j) = decide (i ≤ j) := by
  rw [PySem.W.dataLe_eq]
  show (!PySem.W.dataLt (.int j) (.int i)) = _
  rw [PySem.W.dataLt_int, Bool.eq_iff_iff]
  simp [Int.not_lt]
/-- ints -/
theorem ev_sortedN {xs ys : List Int} (h1 : a z = some (x, z1)) (h2 : cont x z1 = some (false, xs.map D.int)) (hy : (if xs.length ≤ szl then some (xs.mergeSort fun a b => decide (a ≤ b)) else none) = some ys) : N.sorted a z = some (ys.map D.int, z1) := by
  split at hy
  · rename_i hl
    cases hy
    unfold N.sorted
    rw [bnd, h1]
    dsimp only
    rw [h2]
    dsimp only
    rw [toPs_ints]
    dsimp only
    rw [if_pos ⟨by rw [List.length_map]; exact hl, srtOk_ints xs⟩]
    unfold srt
    rw [← PySem.W.sort_maps (r := fun a b => decide (a ≤ b)) D.int fun a _ b _ => (dataLe_int a b).symm]
  · cases hy
end
/-! ### a list of the def's own whose lists stand in the shared heap -/
section
variable {α β γ : Type}
def shL (b : Nat) (n : Nat) : List D := (List.range n).map fun i => D.ref (b + i)
def hcL (e : α → D) (xss : List (List α)) : List D := xss.map fun xs => .lst (xs.map e)
theorem shL_len {b n : Nat} : (shL b n).length = n := by unfold shL; simp
theorem shL_get {b n i : Nat} (h : i < n) : (shL b n)[i]? = some (.ref (b + i)) := by
  unfold shL
  rw [List.getElem?_map, List.getElem?_range h]
  rfl
theorem hcL_len {e : α → D} {xss : List (List α)} : (hcL e xss).length = xss.length := List.length_map _
/-- [[] for _ in xs] -/
def Pl.llNew (α : Type) (n : Nat) : Option (List (List α)) := if n ≤ szl then some (List.replicate n []) else none
/-- xss[i].append(v) -/
def Pl.llApp (xss : List (List α)) (i : Int) (v : α) : Option (List (List α)) := match ixN xss.length i with
  | some j => match xss[j]? with
    | some xs => if xs.length < szl then some (xss.set j (xs ++ [v])) else none
    | none => none
  | none => none
theorem shL_pure {b n : Nat} : isPure (.lst (shL b n)) = true := rfl
theorem Rf.llNew {rest : C} {Φ : γ → Fl → Z → Prop} {i v n : Nat} {mi : M It} {ds : List D} {s : List Sl} {s' : List (List α) → List Sl} {h : List D} {x0 : Sl} {K : List (List α) → Option γ} (e : α → D) (h1 : mi ⟨s, h⟩ = some (⟨ds, Option.none⟩, ⟨s, h⟩)) (hl : ds.length = n) (hv : s[v]? = some x0) (ho : N.isOwn (some x0) = false)
    (hs : ∀ r : List (List α), s.set i (.val (.lst (shL h.length r.length))) = s' r) (k : ∀ r, Rf (K r) rest ⟨s' r, h ++ hcL e r⟩ Φ) :
    Rf ((Pl.llNew α n).bind K) (C.seq (C.set i (E.frz (N.comp mi (G.nm v) [v] (Mi.ret true) (E.shr (N.disp []))))) rest) ⟨s, h⟩ Φ := by
  subst hl
  refine Rf.bd fun r hr => ?_
  unfold Pl.llNew at hr
  split at hr
  · rename_i hl
    cases hr
    have q := comp_shr h1 rfl hl hv ho
    have eh : List.replicate ds.length (D.lst []) = hcL e (List.replicate ds.length []) := by
      unfold hcL
      rw [List.map_replicate]
      rfl
    dsimp only at q
    rw [eh] at q
    exact Rf.set0 (d := .lst (shL h.length ds.length)) (ev_frz q) rfl (by rw [← hs, List.length_replicate]) (k _)
  · cases hr
theorem Rf.llApp {rest : C} {Φ : γ → Fl → Z → Prop} {i : Nat} {mi mv : M D} {s : List Sl} {s' : List (List α) → List Sl} {h : List D} {xss : List (List α)} {j : Int} {v : α} {K : List (List α) → Option γ} (e : α → D)
    (hi : s[i]? = some (.val (.lst (shL h.length xss.length)))) (hs : ∀ r : List (List α), s.set i (.val (.lst (shL h.length r.length))) = s' r) (hmi : mi ⟨s, h ++ hcL e xss⟩ = some (.int j, ⟨s, h ++ hcL e xss⟩))
    (h2 : mv ⟨s, h ++ hcL e xss⟩ = some (e v, ⟨s, h ++ hcL e xss⟩)) (hp : isPure (e v) = true) (k : ∀ r : List (List α), Rf (K r) rest ⟨s' r, h ++ hcL e r⟩ Φ) :
    Rf ((Pl.llApp xss j v).bind K) (C.seq (C.drop (E.chg U.append (E.op O.ix (E.var i) mi) [mv])) rest) ⟨s, h ++ hcL e xss⟩ Φ := by
  refine Rf.bd fun r hr => ?_
  unfold Pl.llApp at hr
  split at hr
  · rename_i jn hj
    split at hr
    · rename_i xs hx
      split at hr
      · rename_i c1
        cases hr
        have hlt : jn < xss.length := (List.getElem?_eq_some_iff.mp hx).1
        have hil := (List.getElem?_eq_some_iff.mp hi).1
        have hv : E.var i ⟨s, h ++ hcL e xss⟩ = some (.lst (shL h.length xss.length), ⟨s, h ++ hcL e xss⟩) := by
          unfold E.var
          dsimp only
          rw [hi]
        have at1 : atI (shL h.length xss.length) j = some (.ref (h.length + jn)) := by
          unfold atI
          rw [shL_len, hj]
          exact shL_get hlt
        have e1 := ev_ix (ds := shL h.length xss.length) hv hmi rfl at1
        have q1 : (hcL e xss)[jn]? = some (.lst (xs.map e)) := by
          unfold hcL
          rw [List.getElem?_map, hx]
          rfl
        have hc : cont (.ref (h.length + jn)) ⟨s, h ++ hcL e xss⟩ = some (false, xs.map e) := cont_ref (get_at q1)
        have es : s' (xss.set jn (xs ++ [v])) = s := by
          rw [← hs, List.length_set]
          refine List.ext_getElem? fun q => ?_
          by_cases c : i = q
          · subst c; rw [List.getElem?_set_self hil, hi]
          · rw [List.getElem?_set_ne c]
        have ev : E.chg U.append (E.op O.ix (E.var i) mi) [mv] ⟨s, h ++ hcL e xss⟩ = some (.non, ⟨s' (xss.set jn (xs ++ [v])), h ++ hcL e (xss.set jn (xs ++ [v]))⟩) := by
          unfold E.chg
          rw [bnd, e1]
          dsimp only
          rw [if_pos (show E.isLst (.ref (h.length + jn)) ⟨s, h ++ hcL e xss⟩ = true by unfold E.isLst; dsimp only; rw [hc]; rfl)]
          rw [bnd, ev_args h2 ev_args0 hp]
          dsimp only
          unfold E.chgF
          dsimp only
          rw [get_at q1]
          dsimp only
          unfold U.append
          dsimp only
          rw [if_pos (by rw [List.length_map]; exact c1)]
          dsimp only
          rw [set_at, es]
          unfold hcL
          rw [List.map_set, show List.map e xs ++ [e v] = List.map e (xs ++ [v]) by rw [List.map_append]; rfl]
        exact Rf.drop ev (k _)
      · cases hr
    · cases hr
  · cases hr
theorem unr_shL {e : α → D} {m : Nat} (hb : BlE 8 e) {xss : List (List α)} : ((shL m xss.length).all fun d => unrOk 11 m (hcL e xss) d) = true ∧ ((shL m xss.length).map fun d => unr 11 m (hcL e xss) d) = xss.map (eL e) := by
  have key : ∀ i, i < xss.length → ∃ xs, xss[i]? = some xs ∧ unrOk 11 m (hcL e xss) (.ref (m + i)) = true ∧ unr 11 m (hcL e xss) (.ref (m + i)) = eL e xs := fun i hi => by
    have hx : (hcL e xss)[i]? = some (.lst (xss[i].map e)) := by
      unfold hcL
      rw [List.getElem?_map, List.getElem?_eq_getElem hi]
      rfl
    refine ⟨xss[i], List.getElem?_eq_getElem hi, ?_, ?_⟩
    · simp only [unrOk, Nat.add_sub_cancel_left, hx]
      have := BlE.mono (BlE.L hb) (by decide : 9 ≤ 12) xss[i] m
      show (decide (m + i < m) || (isLs _ && blw 12 m (eL e xss[i]))) = true
      rw [this]
      simp [isLs]
    · simp only [unr, Nat.add_sub_cancel_left, hx]
      rw [if_neg (by omega)]
      rfl
  constructor
  · rw [List.all_eq_true]
    intro d hd
    obtain ⟨i, hi, rfl⟩ := List.mem_map.mp hd
    obtain ⟨_, _, h, _⟩ := key i (List.mem_range.mp hi)
    exact h
  · refine List.ext_getElem? fun i => ?_
    by_cases c : i < xss.length
    · obtain ⟨xs, h1, _, h3⟩ := key i c
      rw [List.getElem?_map, List.getElem?_map, shL_get c, h1]
      exact congrArg some h3
    · rw [List.getElem?_eq_none (by rw [List.length_map, shL_len]; omega), List.getElem?_eq_none (by rw [List.length_map]; omega)]
theorem gc_shL {mf : Fn} {xs h : List D} {e : α → D} {xss : List (List α)} {n : Nat} (hb : BlE n e) (hn : n ≤ 8) (q : mf xs h = some (.lst (shL h.length xss.length), h ++ hcL e xss)) : gcF mf xs h = some (eL (eL e) xss, h) := by
  have u := unr_shL (m := h.length) (BlE.mono hb hn) (xss := xss)
  refine gc_ev q ?_ ?_
  · show ((shL h.length xss.length).all fun d => unrOk 11 h.length (hcL e xss) d) = true
    exact u.1
  · show D.lst ((shL h.length xss.length).map fun d => unr 11 h.length (hcL e xss) d) = _
    congr 1
    exact u.2
end
end Mi

set_option Elab.async false
set_option linter.all false
set_option maxRecDepth 100000
set_option maxHeartbeats 400000
/-! Mi, part Do: sorted rows of ints that hold rows; row = d.setdefault(k, []); row.append(v). -/
namespace Mi
open PySem L2
/-! ### data that is ordered as the ints in it -/
section
variable {α β γ κ : Type}
structure KO (e : α → D) (k : α → List Int) (n d : Nat) : Prop where
  p : ∃ q : α → PyData, (∀ x, O.toP (e x) = some (q x)) ∧ (∀ x y, PySem.W.alike (q x) (q y) = true) ∧ (∀ x, (q x).depth ≤ d) ∧ (∀ x y, PyData.eqv (q x) (q y) = true ↔ k x = k y) ∧ (∀ x y, PySem.W.dataLt (q x) (q y) = decide (k x < k y)) ∧ ∀ x, (k x).length = n
structure KR (es : α → List D) (k : α → List Int) (n d : Nat) : Prop where
  p : ∃ qs : α → List PyData, (∀ x, O.toPs (es x) = some (qs x)) ∧ (∀ x y, PySem.W.alikeAll (qs x) (qs y) = true) ∧ (∀ x, PyData.depthAll (qs x) ≤ d) ∧ (∀ x y, PyData.eqvAll (qs x) (qs y) = true ↔ k x = k y) ∧ (∀ x y, PySem.W.rowLt (qs x) (qs y) = decide (k x < k y)) ∧ ∀ x, (k x).length = n
theorem app_lt {a b a' b' : List Int} (h : a.length = a'.length) : a ++ b < a' ++ b' ↔ a < a' ∨ (a = a' ∧ b < b') := by
  induction a generalizing a' with
  | nil =>
    cases a' with
    | nil => simp
    | cons _ _ => simp at h
  | cons x a ih =>
    cases a' with
    | nil => simp at h
    | cons y a' =>
      have := ih (a' := a') (by simpa using h)
      rw [List.cons_append, List.cons_append, List.cons_lt_cons_iff, List.cons_lt_cons_iff, this, List.cons.injEq]
      constructor
      · rintro (g | ⟨e, g | ⟨e2, g⟩⟩)
        · exact .inl (.inl g)
        · exact .inl (.inr ⟨e, g⟩)
        · exact .inr ⟨⟨e, e2⟩, g⟩
      · rintro ((g | ⟨e, g⟩) | ⟨⟨e, e2⟩, g⟩)
        · exact .inl g
        · exact .inr ⟨e, .inl g⟩
        · exact .inr ⟨e, .inr ⟨e2, g⟩⟩
theorem KO.int : KO eI (fun i => [i]) 1 0 := by
  refine ⟨fun i => .int i, fun _ => rfl, fun _ _ => by simp [PySem.W.alike], fun _ => by simp [PyData.depth], fun x y => by simp [PyData.eqv], fun x y => ?_, fun _ => rfl⟩
  rw [PySem.W.dataLt_int]
  congr 1
  simp [List.cons_lt_cons_iff]
theorem KO.comp {e : α → D} {k : α → List Int} {n d : Nat} (h : KO e k n d) (f : β → α) : KO (fun x => e (f x)) (fun x => k (f x)) n d := by
  obtain ⟨q, h1, h2, h3, h4, h5, h6⟩ := h.p
  exact ⟨fun x => q (f x), fun x => h1 _, fun x y => h2 _ _, fun x => h3 _, fun x y => h4 _ _, fun x y => h5 _ _, fun x => h6 _⟩
theorem KR.nil : KR (fun _ : α => []) (fun _ => []) 0 0 :=
  ⟨fun _ => [], fun _ => rfl, fun _ _ => by simp [PySem.W.alikeAll], fun _ => by simp [PyData.depthAll], fun _ _ => by simp [PyData.eqvAll], fun _ _ => by
    have : PySem.W.rowLt [] [] = false := PyProof.Rows.lex_irrefl _
    rw [this]; simp, fun _ => rfl⟩
theorem KR.cons {e : α → D} {es : α → List D} {k1 k2 : α → List Int} {n m d : Nat} (h : KO e k1 n d) (t : KR es k2 m d) : KR (fun x => e x :: es x) (fun x => k1 x ++ k2 x) (n + m) d := by
  obtain ⟨q, h1, h2, h3, h4, h5, h6⟩ := h.p
  obtain ⟨qs, t1, t2, t3, t4, t5, t6⟩ := t.p
  refine ⟨fun x => q x :: qs x, fun x => by rw [O.toPs, h1, t1], fun x y => by simp [PySem.W.alikeAll, h2, t2], fun x => ?_, fun x y => ?_, fun x y => ?_, fun x => by rw [List.length_append, h6, t6]⟩
  · have := h3 x
    have := t3 x
    simp only [PyData.depthAll]
    omega
  · simp only [PyData.eqvAll, Bool.and_eq_true]
    rw [h4, t4]
    exact ⟨fun ⟨a, b⟩ => by rw [a, b], fun h => List.append_inj h (by rw [h6, h6])⟩
  · unfold PySem.W.rowLt
    rw [PySem.W.dataLt_cons (h2 x y)]
    have e5 := t5 x y
    unfold PySem.W.rowLt at e5
    rw [e5, h5]
    have la : (k1 x).length = (k1 y).length := by rw [h6, h6]
    by_cases c : k1 x = k1 y
    · rw [if_pos ((h4 x y).mpr c)]
      rw [Bool.eq_iff_iff, decide_eq_true_eq, decide_eq_true_eq, app_lt la]
      exact ⟨fun h => .inr ⟨c, h⟩, fun h => by
        rcases h with h | h
        · rw [c] at h; exact absurd h (List.lt_irrefl _)
        · exact h.2⟩
    · rw [if_neg (fun h => c ((h4 x y).mp h))]
      rw [Bool.eq_iff_iff, decide_eq_true_eq, decide_eq_true_eq, app_lt la]
      exact ⟨.inl, fun h => by
        rcases h with h | h
        · exact h
        · exact absurd h.1 c⟩
theorem KO.mono {e : α → D} {k : α → List Int} {n d d' : Nat} (h : KO e k n d) (hd : d ≤ d') : KO e k n d' := by
  obtain ⟨q, h1, h2, h3, h4⟩ := h.p
  exact ⟨q, h1, h2, fun x => Nat.le_trans (h3 x) hd, h4⟩
theorem KR.mono {e : α → List D} {k : α → List Int} {n d d' : Nat} (h : KR e k n d) (hd : d ≤ d') : KR e k n d' := by
  obtain ⟨q, h1, h2, h3, h4⟩ := h.p
  exact ⟨q, h1, h2, fun x => Nat.le_trans (h3 x) hd, h4⟩
theorem KO.tup {es : α → List D} {k : α → List Int} {n d : Nat} (h : KR es k n d) : KO (fun x => .tup (es x)) k n (d + 1) := by
  obtain ⟨qs, h1, h2, h3, h4, h5, h6⟩ := h.p
  refine ⟨fun x => .tuple (qs x), fun x => by rw [O.toP, h1]; rfl, fun x y => by simp [PySem.W.alike, h2], fun x => ?_, fun x y => by simp only [PyData.eqv]; exact h4 x y, fun x y => ?_, h6⟩
  · have := h3 x
    simp only [PyData.depth]
    omega
  · rw [PySem.W.dataLt_tuple]
    exact h5 x y
theorem KO.pk {e : α → D} {k : α → List Int} {n d : Nat} (h : KO e k n d) : ∃ q : α → PyData, (∀ x, O.toP (e x) = some (q x)) ∧ (∀ x, Mi.pk (e x) = q x) ∧ (∀ x y, PySem.W.alike (q x) (q y) = true) ∧ (∀ x, (q x).depth ≤ d) ∧ (∀ x y, PySem.W.dataLt (q x) (q y) = decide (k x < k y)) := by
  obtain ⟨q, h1, h2, h3, h4, h5, h6⟩ := h.p
  exact ⟨q, h1, pk_of h1, h2, h3, h5⟩
/-- sorted(xs), rows of ints and rows -/
theorem ev_sortedO {e : κ → D} {xs ys : List κ} {a : M D} {x : D} {z z1 : Z} {n d : Nat} (k : κ → List Int) (K : KO e k n d) (hd : d ≤ 40) (hh : ∀ x, headTup (Mi.pk (e x)) = true) (h1 : a z = some (x, z1)) (h2 : cont x z1 = some (false, xs.map e)) (hy : (if xs.length ≤ szl then some (xs.mergeSort fun a b => decide (k a ≤ k b)) else none) = some ys) : N.sorted a z = some (ys.map e, z1) := by
  split at hy
  · rename_i hl
    cases hy
    obtain ⟨q, q1, q2, q3, q4, q5⟩ := K.pk
    have ok : srtOk ((xs.map e).map Mi.pk) = true := by
      have ex : ∀ p ∈ (xs.map e).map Mi.pk, ∃ x, p = q x := fun p hp => by
        obtain ⟨d, hd, rfl⟩ := List.mem_map.mp hp
        obtain ⟨x, _, rfl⟩ := List.mem_map.mp hd
        exact ⟨x, q2 x⟩
      unfold srtOk alikeB sortB
      rw [Bool.and_eq_true, Bool.and_eq_true]
      refine ⟨⟨List.all_eq_true.mpr fun p hp => List.all_eq_true.mpr fun p' hp' => ?_, ?_⟩, List.all_eq_true.mpr fun p hp => ?_⟩
      · obtain ⟨i, rfl⟩ := ex p hp
        obtain ⟨j, rfl⟩ := ex p' hp'
        exact q3 i j
      · rw [Bool.or_eq_true]
        refine .inl (List.all_eq_true.mpr fun p hp => ?_)
        obtain ⟨i, rfl⟩ := ex p hp
        rw [← q2]
        exact hh i
      · obtain ⟨i, rfl⟩ := ex p hp
        rw [decide_eq_true_eq]
        exact Nat.le_trans (q4 i) hd
    unfold N.sorted
    rw [bnd, h1]
    dsimp only
    rw [h2]
    dsimp only
    rw [toPs_rows _ q1]
    dsimp only
    rw [if_pos ⟨by rw [List.length_map]; exact hl, ok⟩]
    unfold srt
    rw [← PySem.W.sort_maps (r := fun a b => decide (k a ≤ k b)) e fun a _ b _ => by
      rw [PySem.W.dataLe_eq]
      show _ = (!PySem.W.dataLt (Mi.pk (e b)) (Mi.pk (e a)))
      rw [q2, q2, q5, Bool.eq_iff_iff]
      simp [List.not_lt]]
  · cases hy
end
/-! ### row = d.setdefault(k, []); row.append(v) -/
section
variable {α β κ : Type} [DecidableEq κ]
theorem Rf.sdApp2 {γ : Type} {rest : C} {Φ : γ → Fl → Z → Prop} {i w : Nat} {mk mv : M D} {y : D} {s : List Sl} {h : List D} {Y : TEnc κ} {kvs : List (κ × List α)} {k0 : κ} {v : α} {K : List (κ × List α) → Option γ} (e : α → D)
    (hi : s[i]? = some (.own (.dt (shK Y h.length kvs)))) {s' : List (κ × List α) → Nat → List Sl} (hs : ∀ ys n, (s.set i (.own (.dt (shK Y h.length ys)))).set w (.val (.ref n)) = s' ys n) (hk : mk ⟨s, h ++ hcK e kvs⟩ = some (y, ⟨s, h ++ hcK e kvs⟩)) (hy : keyT y = some (Y.k k0))
    (hm : ∀ ys n H, mv ⟨s' ys n, H⟩ = some (e v, ⟨s' ys n, H⟩)) (hw : ∀ ys n H, E.var w ⟨s' ys n, H⟩ = some (.ref n, ⟨s' ys n, H⟩)) (hp : isPure (e v) = true) (k : ∀ r n, Rf (K r) rest ⟨s' r n, h ++ hcK e r⟩ Φ) :
    Rf ((Pl.sdApp kvs k0 v).bind K) (C.seq (C.set w (E.setd (E.var i) mk (N.disp []))) (C.seq (C.drop (E.chg U.append (E.var w) [mv])) rest)) ⟨s, h ++ hcK e kvs⟩ Φ := by
  refine Rf.bd fun r hr => ?_
  unfold Pl.sdApp at hr
  split at hr
  · rename_i cc
    obtain ⟨c1, c2⟩ := cc
    cases hr
    have hil := (List.getElem?_eq_some_iff.mp hi).1
    have s0 : s.set i (.own (.dt (shK Y h.length kvs))) = s := by
      refine List.ext_getElem? fun j => ?_
      by_cases c : i = j
      · subst c; rw [List.getElem?_set_self hil, hi]
      · rw [List.getElem?_set_ne c]
    have hv : E.var i ⟨s, h ++ hcK e kvs⟩ = some (.own i, ⟨s, h ++ hcK e kvs⟩) := by
      unfold E.var
      dsimp only
      rw [hi]
    have hd : N.disp [] ⟨s, h ++ hcK e kvs⟩ = some ([], ⟨s, h ++ hcK e kvs⟩) := rfl
    cases hx : ixK k0 kvs with
    | some j =>
      obtain ⟨xs, q1, ⟨kv, q2, q3⟩, q4, q5⟩ := sd_some (v := v) (e := e) (Y := Y) hx
      have e1 : E.setd (E.var i) mk (N.disp []) ⟨s, h ++ hcK e kvs⟩ = some (.ref (h.length + j), ⟨s, h ++ hcK e kvs⟩) := by
        unfold E.setd
        rw [bnd, hv]
        dsimp only
        rw [hi]
        dsimp only
        rw [bnd, hk]
        dsimp only
        rw [bnd, hd]
        dsimp only
        rw [hi, hy]
        dsimp only
        rw [if_pos (by rw [shK_len]; exact c1), getG_shK, hx]
        rfl
      refine Rf.set0 (d := .ref (h.length + j)) (s' := s' kvs (h.length + j)) e1 rfl (by rw [← hs, s0]) ?_
      have hc : cont (.ref (h.length + j)) ⟨s' kvs (h.length + j), h ++ hcK e kvs⟩ = some (false, xs.map e) := cont_ref (get_at q1)
      refine Rf.drop (d := .non) (z1 := ⟨s' (sdPut k0 v kvs) (h.length + j), h ++ hcK e (sdPut k0 v kvs)⟩) ?_ (k _ _)
      unfold E.chg
      rw [bnd, hw]
      dsimp only
      rw [if_pos (show E.isLst (.ref (h.length + j)) ⟨s' kvs (h.length + j), h ++ hcK e kvs⟩ = true by unfold E.isLst; dsimp only; rw [hc]; rfl)]
      rw [bnd, ev_args (hm kvs _ _) ev_args0 hp]
      dsimp only
      unfold E.chgF
      dsimp only
      rw [get_at q1]
      dsimp only
      unfold U.append
      dsimp only
      rw [if_pos (by rw [List.length_map, ← q3]; exact c2 kv q2)]
      dsimp only
      rw [set_at, show List.map e xs ++ [e v] = List.map e (xs ++ [v]) by rw [List.map_append]; rfl, q4]
      have es : s' kvs (h.length + j) = s' (sdPut k0 v kvs) (h.length + j) := by rw [← hs, ← hs, q5]
      rw [es]
    | none =>
      have g0 : getG (shK Y h.length kvs) (Y.k k0) = Option.none := by rw [getG_shK, hx]; rfl
      have hl : (h ++ hcK e kvs).length = h.length + kvs.length := by rw [List.length_append, hcK_len]
      have e1 : E.setd (E.var i) mk (N.disp []) ⟨s, h ++ hcK e kvs⟩ = some (.ref (h.length + kvs.length), ⟨s.set i (.own (.dt (shK Y h.length (kvs ++ [(k0, [])])))), h ++ (hcK e kvs ++ [.lst []])⟩) := by
        unfold E.setd
        rw [bnd, hv]
        dsimp only
        rw [hi]
        dsimp only
        rw [bnd, hk]
        dsimp only
        rw [bnd, hd]
        dsimp only
        rw [hi, hy]
        dsimp only
        rw [if_pos (by rw [shK_len]; exact c1), g0]
        dsimp only
        rw [putG_none g0, hl, ← shK_snoc (xs := ([] : List α)), List.append_assoc]
      refine Rf.set0 (d := .ref (h.length + kvs.length)) (s' := s' (kvs ++ [(k0, [])]) (h.length + kvs.length)) e1 rfl (hs _ _) ?_
      have q1 : (hcK e kvs ++ [D.lst []])[kvs.length]? = some (.lst []) := by
        rw [List.getElem?_append_right (by rw [hcK_len]; exact Nat.le_refl _), hcK_len, Nat.sub_self]; rfl
      have hc : cont (.ref (h.length + kvs.length)) ⟨s' (kvs ++ [(k0, [])]) (h.length + kvs.length), h ++ (hcK e kvs ++ [.lst []])⟩ = some (false, []) := cont_ref (get_at q1)
      refine Rf.drop (d := .non) (z1 := ⟨s' (sdPut k0 v kvs) (h.length + kvs.length), h ++ hcK e (sdPut k0 v kvs)⟩) ?_ (k _ _)
      unfold E.chg
      rw [bnd, hw]
      dsimp only
      rw [if_pos (show E.isLst (.ref (h.length + kvs.length)) ⟨s' (kvs ++ [(k0, [])]) (h.length + kvs.length), h ++ (hcK e kvs ++ [.lst []])⟩ = true by unfold E.isLst; dsimp only; rw [hc]; rfl)]
      rw [bnd, ev_args (hm _ _ _) ev_args0 hp]
      dsimp only
      unfold E.chgF
      dsimp only
      rw [get_at q1]
      dsimp only
      unfold U.append
      dsimp only
      rw [if_pos (show ([] : List D).length < szl from (by decide : 0 < szl))]
      dsimp only
      rw [set_at, sd_none hx]
      have e2 : (hcK e kvs ++ [D.lst []]).set kvs.length (.lst ([] ++ [e v])) = hcK e (kvs ++ [(k0, [v])]) := by
        rw [List.set_append_right _ _ (by rw [hcK_len]; exact Nat.le_refl _), hcK_len, Nat.sub_self]
        unfold hcK
        rw [List.map_append]
        rfl
      rw [e2]
      have es : s' (kvs ++ [(k0, [])]) (h.length + kvs.length) = s' (kvs ++ [(k0, [v])]) (h.length + kvs.length) := by rw [← hs, ← hs, shK_snoc, shK_snoc]
      rw [es]
  · cases hr
theorem ixK_get {k : κ} {e : α → D} : ∀ {kvs : List (κ × List α)}, (∃ j xs, ixK k kvs = some j ∧ getG kvs k = some xs ∧ (hcK e kvs)[j]? = some (.lst (xs.map e))) ∨ (ixK k kvs = none ∧ getG kvs k = none)
  | [] => .inr ⟨rfl, rfl⟩
  | kv :: r => by
    have hg : getG (kv :: r) k = if kv.1 = k then some kv.2 else getG r k := getG_cons
    rw [ixK, hg]
    by_cases c : kv.1 = k
    · rw [if_pos c, if_pos c]
      exact .inl ⟨0, kv.2, rfl, rfl, rfl⟩
    · rw [if_neg c, if_neg c]
      rcases ixK_get (k := k) (e := e) (kvs := r) with ⟨j, xs, h1, h2, h3⟩ | ⟨h1, h2⟩
      · exact .inl ⟨j + 1, xs, by rw [h1]; rfl, h2, h3⟩
      · exact .inr ⟨by rw [h1]; rfl, h2⟩
/-- for x in d.get(k, []), the dict's lists shared -/
theorem ev_seqSh {a b : M D} {y : D} {s : List Sl} {h : List D} {Y : TEnc κ} {kvs : List (κ × List α)} {k0 : κ} (e : α → D) (h1 : a ⟨s, h ++ hcK e kvs⟩ = some (.dt (shK Y h.length kvs), ⟨s, h ++ hcK e kvs⟩)) (h2 : b ⟨s, h ++ hcK e kvs⟩ = some (y, ⟨s, h ++ hcK e kvs⟩)) (hk : keyT y = some (Y.k k0)) :
    ∃ chk, I.seqC (E.get2 a b (E.frz (N.disp []))) ⟨s, h ++ hcK e kvs⟩ = some (⟨((getG kvs k0).getD []).map e, chk⟩, ⟨s, h ++ hcK e kvs⟩) ∧ ∀ s', (⟨((getG kvs k0).getD []).map e, chk⟩ : It).ok ⟨s', h ++ hcK e kvs⟩ = true := by
  have g2 : ∀ o, getG (shK Y h.length kvs) (Y.k k0) = o → E.get2 a b (E.frz (N.disp [])) ⟨s, h ++ hcK e kvs⟩ = some (o.getD (.lst []), ⟨s, h ++ hcK e kvs⟩) := fun o ho => by
    refine ev_get2 (cc := .dt (shK Y h.length kvs)) (w := .lst []) h1 rfl h2 (ev_frz (ev_disp ev_args0)) rfl rfl ?_
    unfold dgetC
    dsimp only
    rw [hk]
    dsimp only
    rw [ho]
  rcases ixK_get (k := k0) (e := e) (kvs := kvs) with ⟨j, xs, e1, e2, e3⟩ | ⟨e1, e2⟩
  · have g := g2 (some (.ref (h.length + j))) (by rw [getG_shK, e1]; rfl)
    have hc : ∀ s', cont (.ref (h.length + j)) ⟨s', h ++ hcK e kvs⟩ = some (false, xs.map e) := fun s' => cont_ref (get_at e3)
    rw [e2]
    refine ⟨some (.ref (h.length + j)), ?_, fun s' => ok_own (hc s')⟩
    unfold I.seqC
    rw [bnd, g]
    show (match cont (.ref (h.length + j)) ⟨s, h ++ hcK e kvs⟩ with | some (_, xs) => some ((⟨xs, some (.ref (h.length + j))⟩ : It), (⟨s, h ++ hcK e kvs⟩ : Z)) | none => none) = _
    rw [hc]
    rfl
  · have g := g2 none (by rw [getG_shK, e1]; rfl)
    rw [e2]
    refine ⟨none, ?_, fun s' => rfl⟩
    unfold I.seqC
    rw [bnd, g]
    rfl
end
end Mi

set_option Elab.async false
set_option linter.all false
set_option maxRecDepth 100000
set_option maxHeartbeats 1000000
/-! Mi, part Xb: tuples of ints that the module's top has written. -/
namespace Mi
open PySem PySem.Spec PyProof.Rows L2
/-- a written value: ints, and tuples of such, n levels deep -/
def wrB (K : PySem.W.Frag) : Nat → D → Value → Bool
  | _, .int i, .int j _ => decide (i = j)
  | n + 1, .kt ds, .ref a => match K.lookup a with
    | some o => decide (o.cls = .type "tuple") && (match o.data with
      | .seq its _ => decide (its.size ≤ sizeLine) && decide (its.toList.length = ds.length) && (ds.zip its.toList).all fun p => wrB K n p.1 p.2
      | _ => false)
    | none => false
  | _, _, _ => false
theorem wr_list {K : PySem.W.Frag} {Tb : Tbs} {n : Nat} (ih : ∀ (d : D) (v : Value), wrB K n d v = true → ∃ x, RelV x v ∧ ∀ F rho, Rp ⟨K, Tb⟩ F rho d x) : ∀ {ds : List D} {vs : List Value}, vs.length = ds.length → ((ds.zip vs).all fun p => wrB K n p.1 p.2) = true → ∃ xs : List V, Vals xs vs ∧ ∀ F rho, Rps ⟨K, Tb⟩ F rho ds xs
  | [], [], _, _ => ⟨[], .nil, fun _ _ => .nil⟩
  | d :: ds, v :: vs, hl, h => by
    rw [List.zip_cons_cons, List.all_cons, Bool.and_eq_true] at h
    obtain ⟨x, r, q⟩ := ih d v h.1
    obtain ⟨xs, rs, qs⟩ := wr_list ih (by simpa using hl) h.2
    exact ⟨x :: xs, .cons r rs, fun F rho => .cons (q F rho) (qs F rho)⟩
  | [], _ :: _, hl, _ => by simp at hl
  | _ :: _, [], hl, _ => by simp at hl
theorem wr_ok {K : PySem.W.Frag} {Tb : Tbs} : ∀ (n : Nat) (d : D) (v : Value), wrB K n d v = true → ∃ x, RelV x v ∧ ∀ F rho, Rp ⟨K, Tb⟩ F rho d x := by
  intro n
  induction n with
  | zero =>
    intro d v h
    cases d with
    | int i =>
      cases v with
      | int j t =>
        have : i = j := by simpa [wrB] using h
        subst this
        exact ⟨.int i, ⟨_, rfl⟩, fun _ _ => .int i⟩
      | _ => simp [wrB] at h
    | _ => cases v <;> simp [wrB] at h
  | succ n ih =>
    intro d v h
    cases d with
    | int i =>
      cases v with
      | int j t =>
        have : i = j := by simpa [wrB] using h
        subst this
        exact ⟨.int i, ⟨_, rfl⟩, fun _ _ => .int i⟩
      | _ => simp [wrB] at h
    | kt ds =>
      cases v with
      | ref a =>
        have h : (match K.lookup a with
          | some o => decide (o.cls = .type "tuple") && (match o.data with
            | .seq its _ => decide (its.size ≤ sizeLine) && decide (its.toList.length = ds.length) && (ds.zip its.toList).all fun p => wrB K n p.1 p.2
            | _ => false)
          | none => false) = true := h
        split at h
        · rename_i o ho
          rw [Bool.and_eq_true] at h
          obtain ⟨h1, h2⟩ := h
          split at h2
          · rename_i its c hd
            rw [Bool.and_eq_true, Bool.and_eq_true] at h2
            obtain ⟨⟨h3, h4⟩, h5⟩ := h2
            obtain ⟨xs, rs, qs⟩ := wr_list ih (of_decide_eq_true h4) h5
            exact ⟨.ref a, rfl, fun F rho => .kt (.inr ⟨o, its, c, ho, of_decide_eq_true h1, hd, of_decide_eq_true h3, rs⟩) (qs F rho)⟩
          · cases h2
        · cases h
      | _ => simp [wrB] at h
    | _ => cases v <;> simp [wrB] at h
/-- the name of such a value -/
theorem me_globW {X : Cx} {Tb : Tbs} {x : Str} {d : D} {u : Value} {n : Nat} {pos : Pos} (hg : Gl X x) (hm : X.mg x = some u) (h : wrB X.K n d u = true) (hd : (x == ("__debug__" : Str)) = false := by decide) : PE X (.Name x pos) (Te (kx X Tb) (E.c d)) := by
  obtain ⟨v, r, q⟩ := wr_ok (Tb := Tb) n d u h
  exact me_glob hg hm r q hd
theorem gr_tpK {gs : List G} {ds : List D} {z : Z} {r : Option Z} (e : G.runs gs ds z = r) : (G.tp gs).run (.kt ds) z = r := e
end Mi

set_option Elab.async false
set_option linter.all false
set_option maxRecDepth 100000
set_option maxHeartbeats 1000000
/-! Mi, part Xc: C(a, b, ..), arguments by place. -/
namespace Mi
open PySem PySem.Spec PyProof.Rows L2
theorem mk_goP {K : Kx} {nm : Str} {C : Addr} {n : Nat} {mf : Fn} {ms : List (M D)} {Ee : XK} (hC : (nm, C) ∈ K.tb.c) (hm : ms.length = n) : ∀ σ H Q, Te K (E.mk nm mf (fun xs => xs) ms) σ H Q →
    tMake C (spM (n + 1) K mf) [] Ee (Ta K (E.args ms)) σ H Q := by
  rintro σ H Q ⟨B, F, rho, om, z, gg⟩
  refine (gg.bnd.imp fun _ _ H1 _ _ zs _ _ _ _ _ ⟨F2, rho2, z2, xs, eg1, s1, p1, r1, g1⟩ => ?_).tx (R := rA K)
  obtain ⟨R, d, z4, e, k⟩ := g1
  have hx := args_len eg1
  refine fun x dx hnx hdx hne => ?_
  rw [List.append_nil]
  dsimp only at e
  split at e
  · rename_i d' hd
    cases e
    obtain ⟨nm2, fs, rfl, hr, hcm⟩ := mkV_ok hd
    have R1 := R.new (o := .own x) hdx
    have hx2 : (upd H1 dx (.own x)) x = none := by rw [upd_ne (show x ≠ dx from fun c => hne c.symm)]; exact hnx
    have R2 := R1.1.new (o := .ins C dx []) hx2
    have R3 := R2.1.share R2.2 (d := .ins nm []) ⟨C, dx, [], hC, upd_same, rfl, .nil⟩
    have a1 := r1.mono (Same.refl _) (List.prefix_append rho2 [x])
    refine ⟨by rw [List.length_cons, ← r1.length, hx, hm], F2, rho2 ++ [x], z2.h ++ [.ins nm []], .ref z2.h.length :: xs, R3.1.rh, .cons (.ref R3.2) a1, .non, _, hr, fun F' rho' H' v e1 e2 r fr nf nr q => ?_⟩
    have hv : v = .non := by cases q; rfl
    refine ⟨hv, ?_⟩
    have R4 := R3.1.called e1 e2 r fr nf nr
    have er : rho' = rho2 ++ [x] := by
      obtain ⟨tl, ht⟩ := e2
      have hl := r.len
      rw [← ht, List.length_append, List.length_append, List.length_append, ← R.rh.len] at hl
      cases tl with
      | nil => rw [← ht, List.append_nil]
      | cons b tl => simp at hl
    subst er
    have last : (rho2 ++ [x])[rho2.length]? = some x := by rw [List.getElem?_append_right (Nat.le_refl _), Nat.sub_self]; rfl
    obtain ⟨C2, dx2, es, hC2, hH, hk, hvs⟩ := r.obs rho2.length (.ins nm2 fs) x (by rw [← R.rh.len, List.getElem?_append_right (Nat.le_refl _), Nat.sub_self]; rfl) last
    obtain ⟨sf, R5⟩ := Rl.settle (s := z2.s) (h := z2.h) R R4 hH
    exact k (upd F' x _) rho2 H' (.ref x) (e1.trans sf) (List.prefix_refl _) R5 (.pure (.ins hC2 upd_same hk ((Rps.conv1 (fun d hd v r => r.blw R.rh.len.symm 12 (List.all_eq_true.mp hcm d hd)) hvs).mono sf (List.prefix_refl _))))
  · cases e
theorem me_mkP {X : Cx} {Tb : Tbs} {k n : Nat} {f C : Addr} {fd : FuncData} {ps : List Str} {x : Str} {p pos : Pos} {e : Expr} {es : List Expr} {mf : Fn} {ms : List (M D)} (hC : (x, C) ∈ Tb.c) (Mm : Mk X.K C f)
    (G : FnOk X.prog X.w X.K X.mg X.base CX0 k f fd ps (spM (n + 1) (kx X Tb) mf)) (hr : Room (k + 1) X.A) (hg : Gl X x) (hm : X.mg x = some (.ref C)) (hb : Binds X.K fd ps []) (hms : ms.length = n) (ha : PA X (e :: es) (Ta (kx X Tb) (E.args ms)))
    (hdb : (x == ("__debug__" : Str)) = false := by decide) (he : starEach (e :: es) X.env = (false, eval e X.env) :: starEach es X.env := by rfl) (hpl : (backTo pos (starEach es X.env)).any (·.1) = false := by rfl) :
    PE X (.Call (.Name x p) (e :: es) [] pos) (Te (kx X Tb) (E.mk x mf (fun xs => xs) ms)) :=
  pe_imp (pe_make (E := E0) Mm G hr hg hm hb .nil pass0 ha hdb he hpl) fun σ H Q h => mk_goP (Ee := E0) hC hms σ H Q h
theorem all_nil' {p : D → Bool} : ([] : List D).all p = true := rfl
theorem all_cons' {p : D → Bool} {d : D} {ds : List D} (h1 : p d = true) (h2 : ds.all p = true) : (d :: ds).all p = true := by rw [List.all_cons, h1, h2]; rfl
section
variable {α β γ δ ε : Type}
@[reducible] def h2 (a : α → D) (b : β → D) (p : α × β) : D := .lst [a p.1, b p.2]
@[reducible] def h3 (a : α → D) (b : β → D) (c : γ → D) (p : α × β × γ) : D := .lst [a p.1, b p.2.1, c p.2.2]
@[reducible] def h4 (a : α → D) (b : β → D) (c : γ → D) (d : δ → D) (p : α × β × γ × δ) : D := .lst [a p.1, b p.2.1, c p.2.2.1, d p.2.2.2]
end
end Mi

set_option Elab.async false
set_option linter.all false
set_option maxRecDepth 100000
set_option maxHeartbeats 1000000
/-! Exceptions, part a: B.__init__(self, ..) where B is an own class over ValueError that has no __init__ of its own. -/
namespace L2
open PySem PySem.Spec PyProof.Rows
/-- what the written part says of a class without an own __init__ over ValueError, named as B -/
structure BseC (K : PySem.W.Frag) (B : Addr) : Prop where
  ga : PySem.W.specialIn K (.ref B) "__getattribute__" = some (some (.builtin "type.__getattribute__"))
  ty : PySem.W.typeIn K (.ref B) = some (.type "type")
  rd : PySem.W.readsIn K B (.type "type") = true
  fi : PySem.W.findCls K (.ref B) (.type "type") "__init__" = some (.val (.builtin "ValueError.__init__"))
section
variable {X : Cx} {o e : Expr} {es : List Expr} {to te : TE} {ta : TA} {x f : Str} {B : Addr} {p p' p1 p2 pos : Pos}
theorem pe_binit {pl : Sem Bool} (T : BseC X.K B) (hg : Gl X x) (hm : X.mg x = some (.ref B)) (ha : PA X (e :: es) ta) (hdb : (x == ("__debug__" : Str)) = false := by decide)
    (hc : eval (.Call (.Attribute (.Name x p1) "__init__" p2) (e :: es) [] pos) X.env = (do
      let ov ← eval (.Name x p1) X.env
      standAt p2.atName
      let (f, first) ← holding [ov] (getMethod ov "__init__" pl)
      callWith pos f first (backTo pos (starEach (e :: es) X.env)) (backToKw pos (keywordEach [] X.env))) := by rfl)
    (he : starEach (e :: es) X.env = (false, eval e X.env) :: starEach es X.env := by rfl) (hpl : (backTo pos (starEach es X.env)).any (·.1) = false := by rfl) :
    PE X (.Call (.Attribute (.Name x p1) "__init__" p2) (e :: es) [] pos) (tVeI X.K ta) := by
  refine ⟨fun pins s σ H Q I h => ?_⟩
  refine PySem.W.methodCall_KW (ld_glob I hg hm ?_ hdb) hc
  refine PySem.W.method_cls I.kIn T.ga ?_
  refine PySem.W.cls_value I.kIn T.rd T.fi (by decide +kernel) ?_
  show wpAny _ _ (callWith pos (Value.builtin "ValueError.__init__") [] (backTo pos (starEach (e :: es) X.env)) []) _ _ _
  refine PyProof.Rows.callWith_method1 (thn (ha.run pos pins _ σ H _ (I.tok _) h) fun us s1 ⟨vs, H1, I1, r1, a, C, ws, ev, hl, T, ea, q⟩ => ?_) he hpl
  subst ev
  cases r1 with
  | @cons _ u0 _ ur ra rw' =>
    obtain rfl : u0 = Value.ref a := ra
    have hlen : ur.length ≤ sizeLine := by
      rw [← Paired.length rw', sizeLine_eq]
      omega
    exact oinit_ok T I1 ea hlen fun s' J => ⟨.non, H1, J, rfl, q⟩
end
end L2

set_option Elab.async false
set_option linter.all false
set_option maxRecDepth 100000
set_option maxHeartbeats 1000000
/-! Mi, part Xd: own exceptions with one field that is a text: made, raised, let out of defs, caught. -/
namespace L2
open PySem PySem.Spec PyProof.Rows
/-! ### calls of methods whose exceptions are wished for by the slots -/
section
variable {Y : Cx} {xt : CXT} {lv : Nat} {fa Ca : Addr} {dd : FuncData} {nms : List Str} {spc : Sp} {Ew : St → XK} {mm : Str} {pp ap : Pos} {oe ae : Expr} {ael : List Expr} {t1 : TE} {t2 : TA}
def tMthW (Ca : Addr) (mm : Str) (spc : Sp) (Ew : St → XK) (t1 : TE) (t2 : TA) : TE := fun σ H Q => t1 σ H fun x H1 => ∃ a dx fs, x = .ref a ∧ H1 a = some (.ins Ca dx fs) ∧ fs.lookup mm = none ∧ t2 σ H1 fun vs H2 => spc (x :: vs) H2 Q (Ew σ)
theorem pe_mthW {pl : Sem Bool} (h1 : PE Y oe t1) (cl : Cls Y.K Ca) (hm : Meth Y.K Ca mm fa) (F : FnOk Y.prog Y.w Y.K Y.mg Y.base xt lv fa dd nms spc) (room : Room lv Y.A) (hb : Binds Y.K dd nms []) (hx : ∀ σ, PassesAt xt Y σ (Ew σ)) (h2 : PA Y (ae :: ael) t2)
    (hst : starEach (ae :: ael) Y.env = (false, eval ae Y.env) :: starEach ael Y.env := by rfl) (hpl : (backTo pp (starEach ael Y.env)).any (·.1) = false := by rfl)
    (ht : eval (.Call (.Attribute oe mm ap) (ae :: ael) [] pp) Y.env = (do
      let ov ← eval oe Y.env
      standAt ap.atName
      let (f, first) ← holding [ov] (getMethod ov mm pl)
      callWith pp f first (backTo pp (starEach (ae :: ael) Y.env)) (backToKw pp (keywordEach [] Y.env))) := by rfl) :
    PE Y (.Call (.Attribute oe mm ap) (ae :: ael) [] pp) (tMthW Ca mm spc Ew t1 t2) := by
  constructor
  intro pins s σ H Q I h
  refine PySem.W.methodCall_KW (pl := pl) (thn (h1.run pins s σ H _ I h) fun u sa ⟨x, Ha, Ia, rx, a, dx, fs, ex, ea, l, q⟩ => ?_) ht
  subst ex
  obtain rfl : u = Value.ref a := rx
  refine getmeth_ok Ia ea cl hm l ?_
  refine PySem.W.callWith_K (first := [.ref a]) (h₀ := Y.base) Ia.ok.mod.kin hm.kp (thn (h2.run pp pins sa σ Ha _ Ia q) fun us sb ⟨vs, Hb, Ib, r, qb⟩ => ⟨Ib.kIn, ?_⟩) hst hpl
  exact run_fnS (us := .ref a :: us) (vs := .ref a :: vs) F room hb (hx σ) Ib (.cons rfl r) qb
end
/-! ### an exception's own __init__ -/
/-- self at a, of the class at C, gets the field fl -/
def spI (C : Addr) (fl : Str) : Sp := fun vs H Q _ => ∃ a v, vs = [.ref a, v] ∧ H a = some (exo a C none) ∧ ∀ dx, H dx = none → dx ≠ a → Q .non (upd (upd H dx (exd dx [(fl, v)])) a (exo a C (some dx)))
def tIni (K : PySem.W.Frag) (fl m : Str) : TS := fun D σ H => ∃ a C v, OexC K C ∧ PySem.W.findIn K (.ref C) fl = some none ∧ σ = [some (.ref a), some v] ∧ H a = some (exo a C none) ∧ ∀ dx, H dx = none → dx ≠ a → D.nx σ (upd (upd H dx (exd dx [(fl, v)])) a (exo a C (some dx)))
theorem ini_body {X : Cx} {B : Addr} {b y fl m : Str} {jj : Nat} {p1 p2 p3 p4 p5 p6 p7 p8 p9 q1 : Pos} {pl : Sem Bool} (T : BseC X.K B) (hg : Gl X b) (hm : X.mg b = some (.ref B)) (h0 : X.N[0]? = some ("self" : Str)) (v0 : Vis X.env.scope "self" := by first | exact Or.inl rfl | exact Or.inr (Or.inl rfl) | exact Or.inr (Or.inr rfl))
    (h1 : X.N[1]? = some y := by rfl) (v1 : Vis X.env.scope y := by first | exact Or.inl rfl | exact Or.inr (Or.inl rfl) | exact Or.inr (Or.inr rfl)) (hdb : (b == ("__debug__" : Str)) = false := by decide) (hdy : (y == ("__debug__" : Str)) = false := by decide) (hcy : (y == ("__classdict__" : Str)) = false := by decide)
    (hc : eval (.Call (.Attribute (.Name b p1) "__init__" p2) (.Name "self" p3 :: [.Constant (.str m) jj p4]) [] p5) X.env = (do
      let ov ← eval (.Name b p1) X.env
      standAt p2.atName
      let (f, first) ← holding [ov] (getMethod ov "__init__" pl)
      callWith p5 f first (backTo p5 (starEach (.Name "self" p3 :: [.Constant (.str m) jj p4]) X.env)) (backToKw p5 (keywordEach [] X.env))) := by rfl)
    (hs : swapsWith (.Call (.Attribute (.Name b p1) "__init__" p2) (.Name "self" p3 :: [.Constant (.str m) jj p4]) [] p5) none p6.line X.env = pure false := by rfl) (hs2 : swapsWith (.Name y p9) (some (.Attribute (.Name "self" p7) fl p8)) q1.line X.env = pure false := by rfl) :
    PSs X [.Expr (.Call (.Attribute (.Name b p1) "__init__" p2) [.Name "self" p3, .Constant (.str m) jj p4] [] p5) p6, .Assign [.Attribute (.Name "self" p7) fl p8] (.Name y p9) q1] (tIni X.K fl m) := by
  refine Mi.pss_imp (pss_cons (ps_expr (pe_binit T hg hm (pa_cons (pe_var h0 v0) (pa_cons pe_str pa_nil)) hdb hc) hs) (pss_one (ps_ost (pe_var h0 v0) (pe_var h1 v1 hdy hcy) hs2))) fun D σ H ⟨a, C, v, T2, no, es, ea, k⟩ => ?_
  subst es
  exact ⟨.ref a, rfl, a, C, [.str m], rfl, by simp, T2, ea, v, rfl, .ref a, rfl, a, C, rfl, T2, no, .inl ⟨ea, k⟩⟩
end L2
namespace Mi
open PySem PySem.Spec PyProof.Rows L2
/-- an own exception: its class by name, its field, the text in it -/
structure Xn where
  nm : Str
  fd : Str
  s : Str
inductive FX where
  | fl (f : Fl) | ex (x : Xn)
abbrev CE := Z → Option (FX × Z)
abbrev ME := Z → Option ((D ⊕ Xn) × Z)
abbrev FnE := List D → List D → Option ((D ⊕ Xn) × List D)
namespace CE
def lift (c : C) : CE := fun z => match c z with
  | some (f, z1) => some (.fl f, z1)
  | none => none
def seq (a b : CE) : CE := fun z => match a z with
  | some (.fl .nx, z1) => b z1
  | r => r
def ite (t : M Bool) (a b : CE) : CE := fun z => match t z with
  | some (true, z1) => a z1
  | some (false, z1) => b z1
  | none => none
/-- raise X(m) -/
def raise (nm fd : Str) (m : M D) : CE := fun z => match m z with
  | some (.str s, z1) => some (.ex ⟨nm, fd, s⟩, z1)
  | _ => none
def drop (e : ME) : CE := fun z => match e z with
  | some (.inl _, z1) => some (.fl .nx, z1)
  | some (.inr x, z1) => some (.ex x, z1)
  | none => none
def ret (e : ME) : CE := fun z => match e z with
  | some (.inl d, z1) => if isPure d = true then some (.fl (.rt d), z1) else none
  | some (.inr x, z1) => some (.ex x, z1)
  | none => none
end CE
namespace EE
def call (mf : FnE) (as : List (M D)) : ME := fun z => match E.args as z with
  | some (xs, z1) => match mf xs z1.h with
    | some (r, h') => some (r, ⟨z1.s, h'⟩)
    | none => none
  | none => none
/-- o.m(..) -/
def meth (nm m : Str) (mf : FnE) (o : M D) (as : List (M D)) : ME := fun z => match o z with
  | some (x, z1) => match insOf x z1 with
    | some (nm2, fs) => if nm2 = nm ∧ (fs.lookup m).isNone = true then match E.args as z1 with
        | some (xs, z2) => match mf (x :: xs) z2.h with
          | some (r, h') => some (r, ⟨z2.s, h'⟩)
          | none => none
        | none => none
      else none
    | none => none
  | none => none
end EE
/-- try: .. except X as e: .. where e's name stands in slot i -/
def C.tryAs (i : Nat) (b : CE) (catch_ : Xn → Option C) : C := fun z => match b z with
  | some (.fl f, z1) => some (f, z1)
  | some (.ex x, z1) => if i < z1.s.length then match catch_ x with
      | some h => match h ⟨z1.s.set i .no, z1.h⟩ with
        | some (f, z2) => some (f, ⟨z2.s.set i .no, z2.h⟩)
        | none => none
      | none => none
    else none
  | none => none
def fnE (n k : Nat) (b : CE) : FnE := fun ds h => if ds.length = k then match b ⟨slots n ds, h⟩ with
    | some (.fl (.rt d), z) => some (.inl d, z.h)
    | some (.fl .nx, z) => some (.inl .non, z.h)
    | some (.ex x, z) => some (.inr x, z.h)
    | _ => none
  else none
/-! ### what they promise -/
def exAt (K : Kx) (x : Xn) (H : Hp) (C dd : Addr) : Prop := (x.nm, C) ∈ K.tb.c ∧ H dd = some (.xd [(x.fd, .str x.s)])
def PostX (K : Kx) (W : WX) (B : Bs) (F : Hp) (rho : List Addr) (D : L2.Ends) (z' : Z) : FX → Prop
  | .fl f => Post K B F rho D z' f
  | .ex x => ∀ F' rho' om' σ' H' C dd, Same F F' → rho <+: rho' → Rl K B F' rho' om' z' σ' H' → exAt K x H' C dd → W (.ref C) (some dd) σ' H'
def TsX (K : Kx) (W : WX) (c : CE) : L2.TS := fun D σ H => ∃ B F rho om z, Rl K B F rho om z σ H ∧ ∃ f z', c z = some (f, z') ∧ PostX K W B F rho D z' f
def PostE (K : Kx) (W : WX) (B : Bs) (F : Hp) (rho : List Addr) (om : Nat → Option Addr) (σ : L2.St) (Q : VK) (z' : Z) : D ⊕ Xn → Prop
  | .inl d => ∀ F' rho' H' y, Same F F' → rho <+: rho' → Rl K B F' rho' om z' σ H' → Rp K F' rho' d y → Q y H'
  | .inr x => ∀ F' rho' H' C dd, Same F F' → rho <+: rho' → Rl K B F' rho' om z' σ H' → exAt K x H' C dd → W (.ref C) (some dd) σ H'
def TeE (K : Kx) (W : WX) (m : ME) : L2.TE := fun σ H Q => ∃ B F rho om z, Rl K B F rho om z σ H ∧ ∃ r z', m z = some (r, z') ∧ PostE K W B F rho om σ Q z' r
theorem PostX.mono {K : Kx} {W : WX} {B : Bs} {F F1 : Hp} {rho rho1 : List Addr} {D : L2.Ends} {z' : Z} {f : FX} (s : Same F F1) (p : rho <+: rho1) (h : PostX K W B F rho D z' f) : PostX K W B F1 rho1 D z' f := by
  cases f with
  | fl f => exact Post.mono s p h
  | ex x => exact fun F' rho' om' σ' H' C dd s' p' R => h F' rho' om' σ' H' C dd (s.trans s') (p.trans p') R
/-- behind a call, what the caller keeps: as spM has it -/
def AftM (K : Kx) (F : Hp) (rho : List Addr) (H : Hp) (h' : List D) (G : Hp → List Addr → Hp → Prop) : Prop :=
  ∀ (F' : Hp) (rho' : List Addr) (H' : Hp), Same F F' → rho <+: rho' → Rh K F' rho' h' H' → (∀ a o, H a = some o → (∀ n : Nat, ¬ rho[n]? = some a) → (∀ p ∈ K.tb.t, ¬ p.1 = a) → H' a = some o) →
    (∀ a o, H a = some o → NT o → F a = none → (∀ n : Nat, ¬ rho[n]? = some a) → F' a = none) → (∀ (n : Nat) a, rho'[n]? = some a → (∃ m : Nat, rho[m]? = some a) ∨ H a = none) → G F' rho' H'
def EndE (K : Kx) (F : Hp) (rho : List Addr) (H : Hp) (h' : List D) (Q : VK) (E : XK) : D ⊕ Xn → Prop
  | .inl d => AftM K F rho H h' fun F' rho' H' => ∀ v, Rp K F' rho' d v → Q v H'
  | .inr x => AftM K F rho H h' fun _ _ H' => ∀ C dd, exAt K x H' C dd → E (.ref C) (some dd) H'
def spE (n : Nat) (K : Kx) (mf : FnE) : Sp := fun vs H Q E => vs.length = n ∧ ∃ (F : Hp) (rho : List Addr) (h : List D) (ds : List D), Rh K F rho h H ∧ Rps K F rho ds vs ∧ ∃ (r : D ⊕ Xn) (h' : List D), mf ds h = some (r, h') ∧ EndE K F rho H h' Q E r
section
variable {X : Cx} {Tb : Tbs} {W : WX}
/-! ### statements -/
theorem mx_lift {s : Stmt} {c : C} (h : PS X s (Ts (kx X Tb) c)) : PS X s (TsX (kx X Tb) W (CE.lift c)) := ps_imp h fun D σ H ⟨B, F, rho, om, z, R, f, z', e, k⟩ => by
  unfold CE.lift at e
  split at e
  · rename_i f1 z1 h1
    cases e
    exact ⟨B, F, rho, om, z, R, f1, _, h1, k⟩
  · cases e
theorem mxs_lift {s : List Stmt} {c : C} (h : PSs X s (Ts (kx X Tb) c)) : PSs X s (TsX (kx X Tb) W (CE.lift c)) := pss_imp h fun D σ H ⟨B, F, rho, om, z, R, f, z', e, k⟩ => by
  unfold CE.lift at e
  split at e
  · rename_i f1 z1 h1
    cases e
    exact ⟨B, F, rho, om, z, R, f1, _, h1, k⟩
  · cases e
theorem mxs_one {s : Stmt} {c : CE} (h : PS X s (TsX (kx X Tb) W c)) : PSs X [s] (TsX (kx X Tb) W c) := pss_one h
theorem mxs_cons {st : Stmt} {rest : List Stmt} {a b : CE} (h1 : PS X st (TsX (kx X Tb) W a)) (h2 : PSs X rest (TsX (kx X Tb) W b)) : PSs X (st :: rest) (TsX (kx X Tb) W (CE.seq a b)) := pss_imp (pss_cons h1 h2) fun D σ H ⟨B, F, rho, om, z, R, f, z', e, k⟩ => by
  unfold CE.seq at e
  split at e
  · rename_i z1 h1
    exact ⟨B, F, rho, om, z, R, .fl .nx, z1, h1, fun F' rho' om' σ' H' s p R' => ⟨B, F', rho', om', z1, R', f, z', e, PostX.mono s p k⟩⟩
  · rename_i hn
    refine ⟨B, F, rho, om, z, R, f, z', e, ?_⟩
    cases f with
    | ex x => exact k
    | fl f =>
      cases f with
      | nx => exact absurd e (hn z')
      | _ => exact k
theorem mx_if {c : Expr} {a b : List Stmt} {t : M Bool} {ca cb : CE} {pos : Pos} (hc : PT X c (Tt (kx X Tb) t)) (ha : PSs X a (TsX (kx X Tb) W ca)) (hb : PSs X b (TsX (kx X Tb) W cb)) : PS X (.If c a b pos) (TsX (kx X Tb) W (CE.ite t ca cb)) := by
  refine ps_imp (ps_if hc ha hb) fun D σ H ⟨B, F, rho, om, z, R, f, z', e, k⟩ => ?_
  unfold CE.ite at e
  split at e
  · rename_i z1 h1
    refine ⟨B, F, rho, om, z, R, true, z1, h1, fun F1 rho1 H1 v s p R1 r1 => ?_⟩
    have r1 : v = true := r1
    subst r1
    exact ⟨B, F1, rho1, om, z1, R1, f, z', e, PostX.mono s p k⟩
  · rename_i z1 h1
    refine ⟨B, F, rho, om, z, R, false, z1, h1, fun F1 rho1 H1 v s p R1 r1 => ?_⟩
    have r1 : v = false := r1
    subst r1
    exact ⟨B, F1, rho1, om, z1, R1, f, z', e, PostX.mono s p k⟩
  · cases e
theorem mx_expr {e : Expr} {m : ME} {pos : Pos} (he : PE X e (TeE (kx X Tb) W m)) (hs : swapsWith e none pos.line X.env = pure false := by rfl) : PS X (.Expr e pos) (TsX (kx X Tb) W (CE.drop m)) := by
  refine ps_imp (ps_expr he hs) fun D σ H ⟨B, F, rho, om, z, R, f, z', e, k⟩ => ?_
  unfold CE.drop at e
  split at e
  · rename_i d z1 h1
    cases e
    exact ⟨B, F, rho, om, z, R, .inl d, _, h1, fun F1 rho1 H1 v s p R1 _ => k F1 rho1 om σ H1 s p R1⟩
  · rename_i x z1 h1
    cases e
    exact ⟨B, F, rho, om, z, R, .inr x, _, h1, fun F1 rho1 H1 C dd s p R1 q => k F1 rho1 om σ H1 C dd s p R1 q⟩
  · cases e
theorem mx_ret {e : Expr} {m : ME} {pos : Pos} (he : PE X e (TeE (kx X Tb) W m)) : PS X (.Return (some e) pos) (TsX (kx X Tb) W (CE.ret m)) := by
  refine ps_imp (ps_ret he) fun D σ H ⟨B, F, rho, om, z, R, f, z', e, k⟩ => ?_
  unfold CE.ret at e
  split at e
  · rename_i d z1 h1
    split at e
    · cases e
      exact ⟨B, F, rho, om, z, R, .inl d, _, h1, fun F1 rho1 H1 v s p R1 q => k F1 rho1 om σ H1 v s p R1 q⟩
    · cases e
  · rename_i x z1 h1
    cases e
    exact ⟨B, F, rho, om, z, R, .inr x, _, h1, fun F1 rho1 H1 C dd s p R1 q => k F1 rho1 om σ H1 C dd s p R1 q⟩
  · cases e
/-! ### raise -/
theorem mx_raise {x fl : Str} {C fI : Addr} {k : Nat} {fd : FuncData} {ps : List Str} {e : Expr} {m : M D} {p pos pos' : Pos} (hc : X.calm = true) (tk : Takes X W) (hC : (x, C) ∈ Tb.c) (T : OexC X.K C) (iC : PySem.W.findIn X.K (.ref C) "__init__" = some (some (.ref fI))) (tI : PySem.W.typeIn X.K (.ref fI) = some (.type "function"))
    (G : FnOk X.prog X.w X.K X.mg X.base CX0 k fI fd ps (spI C fl)) (hr : Room (k + 1) X.A) (hb : Binds X.K fd ps []) (hg : Gl X x) (hm : X.mg x = some (.ref C)) (he : PE X e (Te (kx X Tb) m)) (hdb : (x == ("__debug__" : Str)) = false := by decide)
    (hst : starEach [e] X.env = (false, eval e X.env) :: starEach [] X.env := by rfl) (hpl : (backTo pos (starEach [] X.env)).any (·.1) = false := by rfl) : PS X (.Raise (some (.Call (.Name x p) [e] [] pos)) none pos') (TsX (kx X Tb) W (CE.raise x fl m)) := by
  refine ps_imp (ps_raise hc tk (pmk_oex T iC tI G hr hb .nil pass0 hg hm (pa_cons he pa_nil hst) hdb hst hpl)) fun D σ H ⟨B, F, rho, om, z, R, f, z', e, kk⟩ => ?_
  unfold CE.raise at e
  split at e
  · rename_i s z1 h1
    cases e
    refine ⟨B, F, rho, om, z, R, .str s, _, h1, fun F1 rho1 H1 v s1 p1 R1 r1 => ?_⟩
    have ev : v = .str s := by
      cases r1 with
      | pure r1 => cases r1; rfl
    subst ev
    show _ ∧ _
    refine ⟨by simp, fun a ha => ⟨a, .str s, rfl, upd_same, fun dx h2 h3 => ⟨rfl, dx, [(fl, .str s)], upd_same, ?_, ?_, ?_⟩⟩⟩
    · rw [upd_ne h3, upd_same]
    · rw [upd_ne h3] at h2
      exact h2
    · have hdx : H1 dx = none := by
        rw [upd_ne h3] at h2
        exact h2
      have eH : upd (del (upd (upd (upd H1 a (exo a C none)) dx (exd dx [(fl, V.str s)])) a (exo a C (some dx))) a) dx (.xd [(fl, .str s)]) = upd H1 dx (.xd [(fl, .str s)]) := by
        funext b
        by_cases hb : b = dx
        · subst hb
          rw [upd_same, upd_same]
        · rw [upd_ne hb, upd_ne hb]
          by_cases h4 : b = a
          · subst h4
            rw [del_same, ha]
          · rw [del_ne h4, upd_ne h4, upd_ne hb, upd_ne h4]
      rw [eH]
      exact kk F1 rho1 om σ _ C dx s1 p1 (R1.new hdx).1 ⟨hC, upd_same⟩
  · cases e
/-! ### calls that may raise -/
theorem mx_call {k : Nat} {f : Addr} {fd : FuncData} {ps : List Str} {n : Nat} {mf : FnE} {x : Str} {p pos : Pos} {e : Expr} {es : List Expr} {ms : List (M D)} (tk : Takes X W) (G : FnOk X.prog X.w X.K X.mg X.base (L2.CX X.prog X.w) k f fd ps (spE n (kx X Tb) mf)) (hr : Room k X.A) (hg : Gl X x) (hm : X.mg x = some (.ref f))
    (hk : PySem.W.keepIn X.K (.ref f) = true) (hb : Binds X.K fd ps []) (ha : PA X (e :: es) (Ta (kx X Tb) (E.args ms))) (hn : ms.length = n := by rfl) (hdb : (x == ("__debug__" : Str)) = false := by decide) (he : starEach (e :: es) X.env = (false, eval e X.env) :: starEach es X.env := by rfl)
    (hpl : (backTo pos (starEach es X.env)).any (·.1) = false := by rfl) : PE X (.Call (.Name x p) (e :: es) [] pos) (TeE (kx X Tb) W (EE.call mf ms)) := by
  refine pe_imp (pe_callS (E := WE W) G hr hg hm hk hb (passAt tk) ha hdb he hpl) fun σ H Q ⟨B, F, rho, om, z, R, r, z', e, kk⟩ => ?_
  unfold EE.call at e
  split at e
  · rename_i xs z1 h1
    split at e
    · rename_i h' hd
      cases e
      refine ⟨B, F, rho, om, z, R, xs, z1, h1, fun F1 rho1 H1 vs s1 p1 R1 q1 => ?_⟩
      have hx := args_len h1
      refine ⟨by rw [← q1.length, hx, hn], F1, rho1, z1.h, xs, R1.rh, q1, r, h', hd, ?_⟩
      cases r with
      | inl d => exact fun F' rho' H' e1 e2 rh fr nf nr v q => kk F' rho' H' v (s1.trans e1) (p1.trans e2) (R1.called e1 e2 rh fr nf nr) q
      | inr x => exact fun F' rho' H' e1 e2 rh fr nf nr C dd q => kk F' rho' H' C dd (s1.trans e1) (p1.trans e2) (R1.called e1 e2 rh fr nf nr) q
    · cases e
  · cases e
theorem mx_meth {k n : Nat} {f C : Addr} {fd : FuncData} {ps : List Str} {nm m : Str} {apos pos : Pos} {o e : Expr} {es : List Expr} {mf : FnE} {mo : M D} {ms : List (M D)} {pl : Sem Bool} (tk : Takes X W) (hC : ∀ q ∈ Tb.c, q.1 = nm → q.2 = C) (c : Cls X.K C) (hm : Meth X.K C m f)
    (G : FnOk X.prog X.w X.K X.mg X.base (L2.CX X.prog X.w) k f fd ps (spE (n + 1) (kx X Tb) mf)) (hr : Room k X.A) (hb : Binds X.K fd ps []) (ho : PE X o (Te (kx X Tb) mo)) (ha : PA X (e :: es) (Ta (kx X Tb) (E.args ms))) (hn : ms.length = n := by rfl)
    (hst : starEach (e :: es) X.env = (false, eval e X.env) :: starEach es X.env := by rfl) (hpl : (backTo pos (starEach es X.env)).any (·.1) = false := by rfl)
    (ht : eval (.Call (.Attribute o m apos) (e :: es) [] pos) X.env = (do
      let ov ← eval o X.env
      standAt apos.atName
      let (f, first) ← holding [ov] (getMethod ov m pl)
      callWith pos f first (backTo pos (starEach (e :: es) X.env)) (backToKw pos (keywordEach [] X.env))) := by rfl) :
    PE X (.Call (.Attribute o m apos) (e :: es) [] pos) (TeE (kx X Tb) W (EE.meth nm m mf mo ms)) := by
  refine pe_imp (pe_mthW (Ew := WE W) ho c hm G hr hb (passAt tk) ha hst hpl ht) fun σ H Q ⟨B, F, rho, om, z, R, r, z', e, kk⟩ => ?_
  unfold EE.meth at e
  split at e
  · rename_i x z1 h1
    split at e
    · rename_i nm2 fs hi
      split at e
      · rename_i cc
        split at e
        · rename_i xs z2 h2
          split at e
          · rename_i h' hd
            cases e
            refine ⟨B, F, rho, om, z, R, x, z1, h1, fun F1 rho1 H1 v s1 p1 R1 q1 => ?_⟩
            obtain ⟨c1, c2⟩ := cc
            subst c1
            obtain ⟨rx, a, C2, dx, es, rfl, g1, g2, g3⟩ := insOf_ok R1 q1 hi c2
            have g4 : C2 = C := hC _ g1 rfl
            subst g4
            refine ⟨a, dx, es, rfl, g2, g3, B, F1, rho1, om, z1, R1, xs, z2, h2, fun F2 rho2 H2 vs s2 p2 R2 q2 => ?_⟩
            have hx := args_len h2
            refine ⟨by rw [List.length_cons, ← q2.length, hx, hn], F2, rho2, z2.h, x :: xs, R2.rh, .cons (rx.mono s2 p2) q2, r, h', hd, ?_⟩
            cases r with
            | inl d => exact fun F' rho' H' e1 e2 rh fr nf nr v q => kk F' rho' H' v ((s1.trans s2).trans e1) ((p1.trans p2).trans e2) (R2.called e1 e2 rh fr nf nr) q
            | inr x => exact fun F' rho' H' e1 e2 rh fr nf nr C dd q => kk F' rho' H' C dd ((s1.trans s2).trans e1) ((p1.trans p2).trans e2) (R2.called e1 e2 rh fr nf nr) q
          · cases e
        · cases e
      · cases e
    · cases e
  · cases e
end
end Mi

set_option Elab.async false
set_option linter.all false
set_option maxRecDepth 100000
set_option maxHeartbeats 1000000
/-! Mi, part Xe: defs that may raise, try .. except, what a suite asks of the caught exception. -/
namespace Mi
open PySem PySem.Spec PyProof.Rows L2
section
variable {K : Kx} {B : Bs} {F : Hp} {rho : List Addr} {om : Nat → Option Addr} {z : Z} {σ : L2.St} {H : Hp}
/-- of a slot that is not told, anything goes -/
theorem Rl.anyAt (R : Rl K B F rho om z σ H) {i : Nat} (h : z.s[i]? = some .no) (o : Option V) : Rl K B F rho om z (σ.set i o) H := by
  refine ⟨R.rh, by simp only [List.length_set]; exact R.len, fun j x e => ?_, R.oj, R.orr, R.off, R.oth, R.frm, R.exf, R.exr, R.nF, R.nr, R.no, R.ow, R.to, R.mt⟩
  by_cases c : j = i
  · subst c
    rw [h] at e
    cases e
    trivial
  · have := R.sl j x e
    cases x with
    | no => trivial
    | val d =>
      obtain ⟨v, e1, r⟩ := this
      exact ⟨v, by rw [List.getElem?_set_ne (Ne.symm c)]; exact e1, r⟩
    | own d =>
      obtain ⟨a, e1, e2, r⟩ := this
      exact ⟨a, e1, by rw [List.getElem?_set_ne (Ne.symm c)]; exact e2, r⟩
theorem Rl.forgetTo (R : Rl K B F rho om z σ H) {i : Nat} (h : i < z.s.length) (o : Option V) : Rl K B F rho (omSet om i none) ⟨z.s.set i .no, z.h⟩ (σ.set i o) H :=
  (R.forget i).anyAt (by rw [List.getElem?_set_self h]) o
end
/-! ### a def that may raise, by its body -/
theorem fnE_body {K : Kx} {sc : Scope} {N ps : List Str} {b : CE} {vs : List V} {H : Hp} {Q : VK} {E : XK} (S : FnScope N ps sc) (h : spE ps.length K (fnE N.length ps.length b) vs H Q E) : TsX K (fun cls d _ H => E cls d H) b { nx := fun _ H' => Q .non H', rt := Q } (start N vs) H := by
  obtain ⟨hl, F0, rho, h0, ds, rh, rp, r, h', e, kk⟩ := h
  have hN : ps.length ≤ N.length := by
    have := congrArg List.length S.pre
    rw [List.length_take] at this
    omega
  have R0 := Rl.begin (N := N) rh rp (by omega)
  have aft : ∀ {G : Hp → List Addr → Hp → Prop} {F' rho' om' σ' H' z1}, Rl K ⟨H, F0, rho, fun a => (∃ n : Nat, rho[n]? = some a) ∨ ∃ p ∈ K.tb.t, p.1 = a⟩ F' rho' om' z1 σ' H' → AftM K F0 rho H z1.h G → G F' rho' H' := by
    intro G F' rho' om' σ' H' z1 R' kk
    exact kk F' rho' H' R'.exf R'.exr R'.rh (fun a o h1 h2 h3 => R'.frm a o h1 fun q => q.elim (fun ⟨n, q⟩ => h2 n q) fun ⟨p, hp, q⟩ => h3 p hp q) (fun a o h1 nt h2 h3 => by
        by_cases c : ∃ p ∈ K.tb.t, p.1 = a
        · obtain ⟨p, hp, rfl⟩ := c
          exact R'.rh.tb.nf p hp
        · exact R'.nF a o h1 nt h2 fun q => q.elim (fun ⟨n, q⟩ => h3 n q) c) (fun n a q => by
        rcases R'.nr n a q with (h | ⟨p, hp, rfl⟩) | h
        · exact .inl h
        · exact absurd q (R'.rh.tr p hp n)
        · exact .inr h)
  unfold fnE at e
  split at e
  · cases hb2 : b ⟨slots N.length ds, h0⟩ with
    | none =>
      rw [hb2] at e
      cases e
    | some q =>
      obtain ⟨f1, z1⟩ := q
      rw [hb2] at e
      refine ⟨_, F0, rho, _, _, R0, f1, z1, hb2, ?_⟩
      cases f1 with
      | ex x =>
        cases e
        exact fun F' rho' om' σ' H' C dd s p R' q => aft (G := fun _ _ H' => ∀ C dd, exAt K x H' C dd → E (.ref C) (some dd) H') R' kk C dd q
      | fl f1 =>
        cases f1 with
        | nx =>
          cases e
          exact fun F' rho' om' σ' H' s p R' => aft (G := fun F' rho' H' => ∀ v, Rp K F' rho' .non v → Q v H') R' kk .non .non
        | rt d =>
          cases e
          exact fun F' rho' om' σ' H' v s p R' q => aft (G := fun F' rho' H' => ∀ v, Rp K F' rho' d v → Q v H') R' kk v q
        | bk => cases e
        | ct => cases e
  · cases e
theorem fnE_ok {P : Program} {w : World} {K : Kx} {mg : Str → Option Value} {base : Heap} {x qual : Str} {params : Arguments} {body : List Stmt} {scope : Scope} {dvs : List V} {kws : List (Str × V)} {f : Addr} {fd : FuncData} {N ps : List Str} {k n kk : Nat} {b : CE} (F : FunD K x qual params body scope dvs kws f fd) (S : FnScope N ps scope) (hn : N.length = n) (hk : ps.length = kk)
    (hb : ∀ (A : Around) (outer : List Env) (s : Shared) (H : Hp) (E : XK), Room k (A.deeper (envOfC qual scope s.heap.objs.size f fd.code)) → Takes (cxOf (L2.CX P w) P w K mg base N qual scope f fd.code A outer s H E) (fun cls d _ H => E cls d H) →
      PSs (cxOf (L2.CX P w) P w K mg base N qual scope f fd.code A outer s H E) body (TsX K (fun cls d _ H => E cls d H) b)) : FnOk P w K mg base (L2.CX P w) (k + 1) f fd ps (spE kk K (fnE n kk b)) := by
  subst hn hk
  obtain ⟨oc, od, dV, kV, doc, pm, an, cdv, ct, osl, rfl, lk, hcd, _, _⟩ := F.ex
  exact fn_of lk hcd S (fun vs H Q E h => h.1) fun A outer s H vs Q E hr h => ⟨_, hb A outer s H E hr (takes_of rfl rfl rfl rfl), fnE_body S h⟩
/-- an exception's __init__ -/
theorem initE_ok {P : Program} {w : World} {K : PySem.W.Frag} {mg : Str → Option Value} {base : Heap} {x qual y fl m : Str} {params : Arguments} {body : List Stmt} {scope : Scope} {dvs : List V} {kws : List (Str × V)} {f C : Addr} {fd : FuncData} {k : Nat} (F : FunD K x qual params body scope dvs kws f fd) (S : FnScope ["self", y] ["self", y] scope) (T : OexC K C) (no : PySem.W.findIn K (.ref C) fl = some none)
    (hb : ∀ (A : Around) (outer : List Env) (s : Shared) (H : Hp) (E : XK), PSs (cxOf CX0 P w K mg base ["self", y] qual scope f fd.code A outer s H E).nox body (tIni K fl m)) : FnOk P w K mg base CX0 (k + 1) f fd ["self", y] (spI C fl) := by
  obtain ⟨oc, od, dV, kV, doc, pm, an, cdv, ct, osl, rfl, lk, hcd, _, _⟩ := F.ex
  refine fn_of lk hcd S (fun vs H Q E h => ?_) fun A outer s H vs Q E hr h => ⟨_, (hb A outer s H E).nox, ?_⟩
  · obtain ⟨a, v, rfl, _⟩ := h
    rfl
  · obtain ⟨a, v, rfl, ea, k⟩ := h
    exact ⟨a, C, v, T, no, rfl, ea, fun dx h1 h2 => k dx h1 h2⟩
/-! ### try -/
/-- what a suite stands in: the exception x (of the class at C, its dict at dd) at a, which slot i names -/
def tSu (K : Kx) (i : Nat) (a dd : Addr) (x : Xn) (c : C) : L2.TS := fun D σ H => σ[i]? = some (some (.ref a)) ∧ H dd = some (.xd [(x.fd, .str x.s)]) ∧ Ts K c D σ H
theorem pss_ex {X : Cx} {st : List Stmt} {α : Type} {p : α → Prop} {t : α → L2.TS} (h : ∀ i, p i → PSs X st (t i)) : PSs X st (fun D σ H => ∃ i, p i ∧ t i D σ H) := ⟨fun pins s σ H D I ⟨i, hp, hw⟩ => (h i hp).run pins s σ H D I hw⟩
section
variable {X : Cx} {Tb : Tbs}
theorem ms_try {n x : Str} {i : Nat} {Cc : Addr} {body suite : List Stmt} {b0 : Stmt} {np pos pos' : Pos} {cE : CE} {catch_ : Xn → Option C} (hs : X.stack = X.env :: X.outer) (hf : X.env.frame = some X.env.locals) (hN : X.N.Nodup) (hi : X.N[i]? = some n) (hln : X.env.kindOf n = some .local) (hg : Gl X x) (hm : X.mg x = some (.ref Cc))
    (hb : ∀ (W : WX) (pn : List (Addr × Obj)) (xe : Value → Shared → Prop), Takes (X.tr pn xe) W → PSs (X.tr pn xe) body (TsX (kx X Tb) W cE)) (hex : ∀ xx h, catch_ xx = some h → ∀ C, (xx.nm, C) ∈ Tb.c → PySem.W.exmOne X.K (.ref C) (.ref Cc) = some true)
    (hsu : ∀ xx h, catch_ xx = some h → ∀ C, (xx.nm, C) ∈ Tb.c → ∀ (a : Addr) (oe : Obj) (dd : Addr) (pn : List (Addr × Obj)), Zc (.ref C) (some dd) oe → (∃ vs, oe.data = .fields vs) → PSs (X.suite a ((a, oe) :: pn)) (b0 :: suite) (tSu (kx X Tb) i a dd xx h)) (hdb : (x == ("__debug__" : Str)) = false := by decide) :
    PS X (.Try body [.ExceptHandler (some (.Name x np)) (some n) (b0 :: suite) pos'] [] [] pos) (Ts (kx X Tb) (C.tryAs i cE catch_)) := by
  refine ps_imp (ps_try_as (c := .ref Cc) (tb := fun W => TsX (kx X Tb) W cE) (ts := fun a cls d D σ H => ∃ q : Xn × C × Addr × Addr, (catch_ q.1 = some q.2.1 ∧ (q.1.nm, q.2.2.1) ∈ Tb.c ∧ cls = .ref q.2.2.1 ∧ d = some q.2.2.2) ∧ tSu (kx X Tb) i a q.2.2.2 q.1 q.2.1 D σ H) hs hf hN hi hln ⟨hg, hdb, .inl hm⟩ takes0 (fun W pn xe tk _ => hb W pn xe tk) ?_) ?_
  · intro a oe cls d pn hz hv
    refine pss_ex fun q hq => ?_
    obtain ⟨h1, h2, rfl, rfl⟩ := hq
    exact hsu _ _ h1 _ h2 a oe _ pn hz hv
  · rintro D σ H ⟨B, F, rho, om, z, R, f, z', e, k⟩
    unfold C.tryAs at e
    split at e
    · rename_i f1 z1 h1
      cases e
      exact ⟨B, F, rho, om, z, R, .fl f, _, h1, k⟩
    · rename_i xx z1 h1
      split at e
      · rename_i hl
        split at e
        · rename_i h hc
          split at e
          · rename_i f2 z2 h2
            cases e
            refine ⟨B, F, rho, om, z, R, .ex xx, z1, h1, fun F' rho' om' σ' H' C dd s p R' q => ⟨true, hex _ _ hc C q.1, fun _ a na => ⟨(xx, h, C, dd), ⟨hc, q.1, rfl, rfl⟩, ?_, q.2, ?_⟩, (fun q => nomatch q)⟩⟩
            · rw [List.getElem?_set_self (by rw [← R'.len]; exact hl)]
            · have R1 : Rl (kx X Tb) B F' rho' (omSet om' i none) ⟨z1.s.set i .no, z1.h⟩ (σ'.set i (some (.ref a))) H' := R'.forgetTo hl (some (.ref a))
              have hl2 : ∀ {F2 rho2 om2 σ2 H2}, Rl (kx X Tb) B F2 rho2 om2 z2 σ2 H2 → Rl (kx X Tb) B F2 rho2 (omSet om2 i none) ⟨z2.s.set i .no, z2.h⟩ (σ2.set i none) H2 := by
                intro F2 rho2 om2 σ2 H2 R2
                by_cases c : i < z2.s.length
                · exact R2.forgetTo c none
                · have e3 := R2.forget i
                  rw [List.set_eq_of_length_le (l := σ2) (by rw [← R2.len]; omega)]
                  exact e3
              refine ⟨B, F', rho', _, _, R1, f, z2, h2, ?_⟩
              have k := k.mono s p
              cases f with
              | nx => exact fun F2 rho2 om2 σ2 H2 s2 p2 R2 => k F2 rho2 _ _ H2 s2 p2 (hl2 R2)
              | bk => exact fun F2 rho2 om2 σ2 H2 s2 p2 R2 => k F2 rho2 _ _ H2 s2 p2 (hl2 R2)
              | ct => exact fun F2 rho2 om2 σ2 H2 s2 p2 R2 => k F2 rho2 _ _ H2 s2 p2 (hl2 R2)
              | rt d => exact fun F2 rho2 om2 σ2 H2 v s2 p2 R2 r2 => k F2 rho2 _ _ H2 v s2 p2 (hl2 R2) r2
          · cases e
        · cases e
      · cases e
    · cases e
/-! ### the caught exception is asked -/
/-- a value, where the exception stands -/
def tK (i : Nat) (a dd : Addr) (x : Xn) (v : V) : L2.TE := fun σ H Q => σ[i]? = some (some (.ref a)) ∧ H dd = some (.xd [(x.fd, .str x.s)]) ∧ Q v H
theorem pe_excF {a C dd : Addr} {oe : Obj} {pn : List (Addr × Obj)} {n fl : Str} {i : Nat} {x : Xn} {p pos : Pos} (T : XfC X.K C) (hno : PySem.W.findIn X.K (.ref C) fl = some none) (hz : Zc (.ref C) (some dd) oe) (hf : ∃ vs, oe.data = .fields vs) (hi : X.N[i]? = some n := by rfl)
    (hv : Vis X.env.scope n := by first | exact Or.inl rfl | exact Or.inr (Or.inl rfl) | exact Or.inr (Or.inr rfl)) (hx : x.fd = fl := by rfl) (hd : (n == ("__debug__" : Str)) = false := by decide) (hcd : (n == ("__classdict__" : Str)) = false := by decide) (hb : attributeBase (.Name n p) fl X.env (eval (.Name n p) X.env) = eval (.Name n p) X.env := by rfl) :
    PE (X.suite a ((a, oe) :: pn)) (.Attribute (.Name n p) fl pos) (tK i a dd x (.str x.s)) :=
  pe_imp (pe_xf T hno hz hf (pe_var (X := X.suite a ((a, oe) :: pn)) hi hv hd hcd) hb) fun σ H Q ⟨h1, h2, h3⟩ => ⟨_, h1, rfl, rfl, dd, _, _, rfl, h2, by subst hx; simp [List.lookup], h3⟩
/-- what isinstance wants of the class -/
structure IsiC (K : PySem.W.Frag) (C : Addr) : Prop where
  cl : (PySem.W.clsIn K C).isSome = true
  ga : PySem.W.findIn K (.ref C) "__getattribute__" = some (some (.builtin "BaseException.__getattribute__"))
  gt : PySem.W.findIn K (.ref C) "__getattr__" = some none
  sub : PySem.W.subIn K (.ref C) (.type "BaseException") = some true
  ca : PySem.W.findIn K (.ref C) "__class__" = some (some (.builtin "object.__class__"))
  gn : PySem.W.specialIn K (.builtin "object.__class__") "__get__" = some (some (.builtin "getset_descriptor.__get__"))
  tk : PySem.W.takesIn K (.builtin "object.__class__") = some true
  mr : PySem.W.mroIn K C (.type "object") = some true
theorem pe_excIs {a C dd : Addr} {oe : Obj} {pn : List (Addr × Obj)} {n : Str} {i : Nat} {x : Xn} {q p1 pos : Pos} {te : Expr} {c : V} {cv : Value} {b : Bool} (T : IsiC X.K C) (hz : Zc (.ref C) (some dd) oe) (hf : ∃ vs, oe.data = .fields vs) (he : PE (X.suite a ((a, oe) :: pn)) te (tC c)) (hcv : ∀ u, RelV c u → u = cv) (hk : PySem.W.kitOne X.K (.ref C) cv = some b)
    (hg : Gl X "isinstance") (hm : X.mg "isinstance" = none) (hi : X.N[i]? = some n := by rfl) (hv : Vis X.env.scope n := by first | exact Or.inl rfl | exact Or.inr (Or.inl rfl) | exact Or.inr (Or.inr rfl)) (hd : (n == ("__debug__" : Str)) = false := by decide) (hcd : (n == ("__classdict__" : Str)) = false := by decide) (hbi : bootBuiltins "isinstance" = some (.builtin "isinstance") := by decide +kernel)
    (s1 : starEach [.Name n p1, te] X.env = (false, eval (.Name n p1) X.env) :: starEach [te] X.env := by rfl) (s2 : starEach [te] X.env = (false, eval te X.env) :: starEach [] X.env := by rfl) (hpl : (backTo pos (starEach [te] X.env)).any (·.1) = false := by rfl) :
    PE (X.suite a ((a, oe) :: pn)) (.Call (.Name "isinstance" q) [.Name n p1, te] [] pos) (tK i a dd x (.bl b)) := by
  have Y : CallR (X.suite a ((a, oe) :: pn)) (.builtin "isinstance") (fun xs H Q => xs = [.ref a, c] ∧ (∃ fs, H dd = some (.xd fs)) ∧ Q (.bl b) H) := by
    intro pins s σ H xs us Q I r h
    obtain ⟨rfl, ⟨fs, hdd⟩, h⟩ := h
    cases r with
    | cons rx rr =>
      cases rr with
      | cons rt rr =>
        cases rr
        cases rx
        have ec := hcv _ rt
        subst ec
        obtain ⟨hget, _⟩ := I.pin (a, oe) (List.mem_append.mpr (.inl List.mem_cons_self))
        obtain ⟨vs, hvs⟩ := hf
        have hx : ObjOk X.prog X.w H s.heap dd (.xd fs) := I.hok dd _ hdd
        obtain ⟨mA, hns, _⟩ := hx
        obtain ⟨od, ho, _⟩ := lookIn_ns hns
        have J : PySem.W.InstAt s.heap a oe C (some od) := ⟨hget, hz.1, by unfold PySem.W.notCls; rw [hvs] <;> rfl, by rw [hz.2]; exact ho⟩
        exact PySem.W.kia_one (PySem.W.kitx_exc T.cl T.ga T.gt T.sub T.ca T.gn T.tk T.mr) I.kIn J hk (fun z => nomatch z) fun tk => ⟨.bl b, H, I.kept (t' := tk) fun _ _ z => z, rfl, h⟩
  exact pe_imp (pe_callB Y hg hm hbi (pa_cons (pe_var (X := X.suite a ((a, oe) :: pn)) hi hv hd hcd) (pa_cons he pa_nil s2) s1) (he := s1) (hpl := hpl)) fun σ H Q ⟨h1, h2, h3⟩ => ⟨_, h1, rfl, ⟨_, h2⟩, h3⟩
end
end Mi

set_option Elab.async false
set_option linter.all false
set_option maxRecDepth 100000
set_option maxHeartbeats 1000000
/-! Mi, part Xf: the suites of the laws, and what is read of the exceptions' classes at the head's end. -/
namespace Mi
open PySem PySem.Spec PyProof.Rows L2
theorem ret_go {K : Kx} {m : M D} {D : L2.Ends} {σ : L2.St} {H : Hp} (h : Ts K (C.ret m) D σ H) : Te K m σ H D.rt := by
  obtain ⟨B, F, rho, om, z, R, f, z', e, k⟩ := h
  obtain ⟨x, z1, e1, e2⟩ := bnd_some e
  refine ⟨B, F, rho, om, z, R, x, z1, e1, fun F1 rho1 H1 v s p R1 r1 => ?_⟩
  cases r1 with
  | pure r1 =>
    have e2 : some (Fl.rt x, z1) = some (f, z') := by
      cases x <;> first | exact e2 | (cases r1; done)
    cases e2
    exact k F1 rho1 om σ H1 v s p R1 r1
  | @own i a h =>
    try dsimp only at e2
    split at e2
    · rename_i ds hs
      cases e2
      obtain ⟨a', h1, h2, h5⟩ := R1.sl i _ hs
      rw [h] at h1
      cases h1
      obtain ⟨xs, h3, h4⟩ := h5
      have f0 := R1.freshOwn h
      obtain ⟨R2, s2⟩ := (R1.forget i).lay f0 h3
      exact k _ rho1 _ σ H1 _ (s.trans s2) p R2 (.lst upd_same (h4.mono s2 (List.prefix_refl _)))
    · cases e2
section
variable {X : Cx} {Tb : Tbs} {a dd : Addr} {oe : Obj} {pn : List (Addr × Obj)} {i : Nat} {x : Xn}
/-- return e.f if isinstance(e, T) else .. -/
theorem su_ifE {c b el : Expr} {pos p2 : Pos} {m : M D} (hc : PE (X.suite a ((a, oe) :: pn)) c (tK i a dd x (.bl true))) (hb : PE (X.suite a ((a, oe) :: pn)) b (tK i a dd x (.str x.s))) (he : PE (X.suite a ((a, oe) :: pn)) el (Te (kx X Tb) m)) (ht : ∀ whole, isTrue c X.env whole = (do let v ← whole; standAt c.pos; holding [v] (truthy v)) := by intro _; rfl) :
    PSs (X.suite a ((a, oe) :: pn)) [.Return (some (.IfExp c b el p2)) pos] (tSu (kx X Tb) i a dd x (C.ret (E.c (.str x.s)))) := by
  refine pss_imp (pss_one (ps_ret (pe_ifExp (pt_val hc ht) hb he))) fun D σ H ⟨h1, h2, h3⟩ => ?_
  have h4 : D.rt (.str x.s) H := tc_ok (fun _ _ => .str x.s) σ H _ (ret_go h3)
  exact ⟨h1, h2, _, rfl, h1, h2, h4⟩
/-- return isinstance(e, T) and e.f == .. -/
theorem su_andEq {c b el : Expr} {pos p2 p3 : Pos} {m : M D} (hu : X.A.units + 64 < cLine) (hc : PE (X.suite a ((a, oe) :: pn)) c (tK i a dd x (.bl true))) (hb : PE (X.suite a ((a, oe) :: pn)) b (tK i a dd x (.str x.s))) (he : PE (X.suite a ((a, oe) :: pn)) el (Te (kx X Tb) m)) (hm : behindInMarks .Eq el = false := by rfl) :
    PSs (X.suite a ((a, oe) :: pn)) [.Return (some (.BoolOp .And [c, .Compare b [.Eq] [el] p2] p3)) pos] (tSu (kx X Tb) i a dd x (C.ret (E.op O.eq (E.c (.str x.s)) m))) := by
  obtain ⟨r, g1, g2⟩ := (o_eq (X := X.suite a ((a, oe) :: pn)) hu).rl
  refine pss_imp (pss_one (ps_ret (pe_and hc (pe_one (pe_cmpR g1 hb he hm))))) fun D σ H ⟨h1, h2, h3⟩ => ?_
  have h4 := op_go (g2 Tb) σ H _ (ret_go h3)
  exact ⟨h1, h2, true, rfl, h1, h2, tc_ok (fun _ _ => .str x.s) σ H _ h4⟩
end
/-! ### an exception's class, as the head leaves it -/
def oexB (K : PySem.W.Frag) (C : Addr) : Bool := (match K.lookup C with
  | some ⟨.type "type", _, .cls cd, sl⟩ => (match cd.mro, sl.toList with
    | .ref C' :: bm, [_, _, _, _, some (.builtin n), _] => decide (C' = C) && (decide (n = "ValueError.__new__") && (!cd.hasDel && (cd.hasDict && PySem.HandSPX.refsVE bm)))
    | _, _ => false)
  | _ => false) && (decide (PySem.W.findIn K (.ref C) "__setattr__" = some (some (.builtin "object.__setattr__"))) && (decide (PySem.W.subIn K (.ref C) (.type "BaseException") = some true) && (decide (PySem.W.typeIn K (.ref C) = some (.type "type")) && PySem.W.keepIn K (.ref C))))
theorem oexB_ok {K : PySem.W.Frag} {C : Addr} (h : oexB K C = true) : OexC K C := by
  unfold oexB at h
  rw [Bool.and_eq_true, Bool.and_eq_true, Bool.and_eq_true, Bool.and_eq_true] at h
  obtain ⟨h0, h1, h2, h3, h4⟩ := h
  refine ⟨?_, of_decide_eq_true h1, of_decide_eq_true h2, of_decide_eq_true h3, h4⟩
  split at h0
  · rename_i dd cd sl ho
    split at h0
    · rename_i C' bm k0 k1 k2 k3 n k5 hm hs
      rw [Bool.and_eq_true, Bool.and_eq_true, Bool.and_eq_true, Bool.and_eq_true] at h0
      obtain ⟨e1, e2, e3, e4, e5⟩ := h0
      have e1 : C' = C := of_decide_eq_true e1
      have e2 : n = "ValueError.__new__" := of_decide_eq_true e2
      subst e1 e2
      obtain ⟨nm, bs, mro, ns, qn, hd, sn, sub, ab, col, del⟩ := cd
      dsimp only at hm e3 e4
      subst hm
      cases del with
      | true => cases e3
      | false =>
        cases hd with
        | false => cases e4
        | true =>
          obtain ⟨l⟩ := sl
          dsimp only at hs
          subst hs
          exact ⟨nm, qn, ns, bs, bm, sn, sub, ab, col, dd, k0, k1, k2, k3, k5, ho, e5⟩
    · cases h0
  · cases h0
/-- all that is asked of such a class -/
structure ExF (K : PySem.W.Frag) (C fI : Addr) (fl : Str) : Prop where
  oex : OexC K C
  isi : IsiC K C
  xf : XfC K C
  iC : PySem.W.findIn K (.ref C) "__init__" = some (some (.ref fI))
  tI : PySem.W.typeIn K (.ref fI) = some (.type "function")
  no : PySem.W.findIn K (.ref C) fl = some none
def isiB (K : PySem.W.Frag) (C : Addr) : Bool := (PySem.W.clsIn K C).isSome && (decide (PySem.W.findIn K (.ref C) "__class__" = some (some (.builtin "object.__class__"))) && (decide (PySem.W.specialIn K (.builtin "object.__class__") "__get__" = some (some (.builtin "getset_descriptor.__get__"))) &&
  (decide (PySem.W.takesIn K (.builtin "object.__class__") = some true) && decide (PySem.W.mroIn K C (.type "object") = some true))))
def exB (K : PySem.W.Frag) (C fI : Addr) (fl : Str) : Bool := oexB K C && (isiB K C && (xfB K C && (decide (PySem.W.findIn K (.ref C) "__init__" = some (some (.ref fI))) && (decide (PySem.W.typeIn K (.ref fI) = some (.type "function")) && decide (PySem.W.findIn K (.ref C) fl = some none)))))
theorem exB_ok {K : PySem.W.Frag} {C fI : Addr} {fl : Str} (h : exB K C fI fl = true) : ExF K C fI fl := by
  unfold exB at h
  rw [Bool.and_eq_true, Bool.and_eq_true, Bool.and_eq_true, Bool.and_eq_true, Bool.and_eq_true] at h
  obtain ⟨h1, h2, h3, h4, h5, h6⟩ := h
  unfold isiB at h2
  rw [Bool.and_eq_true, Bool.and_eq_true, Bool.and_eq_true, Bool.and_eq_true] at h2
  obtain ⟨g1, g2, g3, g4, g5⟩ := h2
  have x := xfB_ok h3
  exact ⟨oexB_ok h1, ⟨g1, x.ga, x.gg, x.exC, of_decide_eq_true g2, of_decide_eq_true g3, of_decide_eq_true g4, of_decide_eq_true g5⟩, x, of_decide_eq_true h4, of_decide_eq_true h5, of_decide_eq_true h6⟩
def valB (o : Option PySem.W.CFound) (v : Value) : Bool := match o with
  | some (.val u) => decide (u = v)
  | _ => false
theorem valB_ok {o : Option PySem.W.CFound} {v : Value} (h : valB o v = true) : o = some (.val v) := by
  unfold valB at h
  split at h
  · rw [of_decide_eq_true h]
  · cases h
def bseB (K : PySem.W.Frag) (B : Addr) : Bool := decide (PySem.W.specialIn K (.ref B) "__getattribute__" = some (some (.builtin "type.__getattribute__"))) && (decide (PySem.W.typeIn K (.ref B) = some (.type "type")) && (PySem.W.readsIn K B (.type "type") && valB (PySem.W.findCls K (.ref B) (.type "type") "__init__") (.builtin "ValueError.__init__")))
theorem bseB_ok {K : PySem.W.Frag} {B : Addr} (h : bseB K B = true) : BseC K B := by
  unfold bseB at h
  rw [Bool.and_eq_true, Bool.and_eq_true, Bool.and_eq_true] at h
  obtain ⟨h1, h2, h3, h4⟩ := h
  exact ⟨of_decide_eq_true h1, of_decide_eq_true h2, h3, valB_ok h4⟩
def kitB (K : PySem.W.Frag) (C : Addr) (c : Value) (b : Bool) : Bool := decide (PySem.W.kitOne K (.ref C) c = some b)
def exmB (K : PySem.W.Frag) (C c : Addr) : Bool := decide (PySem.W.exmOne K (.ref C) (.ref c) = some true)
/-! ### the head's look, the interpreter's own table seen too (a class's field is read by it) -/
def adS (g : Addr → Option Obj) (n : Nat) : List Addr := cStatics :: He.asD g n
def obsS (n : Nat) (facts : List He.Fa) (defs : List He.DefD) (tabs : List He.Tab) (lams : List He.Defn) (more : PySem.W.Frag → Bool) (g : Addr → Option Obj) : He.AlX :=
  (He.obsT facts defs tabs (He.frT g (adS g n)), more (He.frT g (adS g n)) && He.tabsB g lams (He.frT g (adS g n)))
theorem saysS {n : Nat} {facts : List He.Fa} {defs : List He.DefD} {tabs : List He.Tab} {lams : List He.Defn} {more : PySem.W.Frag → Bool} {w : World} {hp : Heap} (q : obsS n facts defs tabs lams more hp.get? = He.valX defs tabs w) : He.SaysX facts defs tabs lams more w hp (He.frT hp.get? (adS hp.get? n)) := by
  obtain ⟨q1, q2⟩ := Prod.mk.injEq .. ▸ q
  rw [Bool.and_eq_true] at q2
  have each : ∀ p ∈ lams, PySem.W.codeHdIn (He.frT hp.get? (adS hp.get? n)) (He.cT (He.frT hp.get? (adS hp.get? n)) p).1 (He.cT (He.frT hp.get? (adS hp.get? n)) p).2 = true ∧ ∃ o, hp.get? (He.cT (He.frT hp.get? (adS hp.get? n)) p).2 = some o ∧ He.emptyTab o = true := by
    intro p hp'
    have t := List.all_eq_true.mp q2.2 p hp'
    rw [Bool.and_eq_true] at t
    refine ⟨t.1, ?_⟩
    have t2 := t.2
    revert t2
    cases c : hp.get? (He.cT (He.frT hp.get? (adS hp.get? n)) p).2 with
    | none => intro t2; cases t2
    | some o => exact fun t2 => ⟨o, rfl, t2⟩
  constructor
  · exact q1
  · exact q2.1
  · exact fun p m => (each p m).1
  · intro p m
    obtain ⟨o, e1, e2⟩ := (each p m).2
    exact He.frT_none e1 e2
  · intro p m
    obtain ⟨o, e1, e2⟩ := (each p m).2
    rw [e1, He.emptyTab_eq e2]
def hookS (n : Nat) (facts : List He.Fa) (defs : List He.DefD) (tabs : List He.Tab) (lams : List He.Defn) (more : PySem.W.Frag → Bool) : PySem.W.Hook :=
  ⟨He.AlX, fun s => obsS n facts defs tabs lams more s.heap.get?, fun w => He.valX defs tabs w, fun w hp => ∃ K : PySem.W.Frag, K.In hp ∧ He.SaysX facts defs tabs lams more w hp K, fun _ _ q => ⟨_, He.frT_in, saysS q⟩, (He.hookX n facts defs tabs lams more).keeps⟩
theorem obsS_eq {n : Nat} {facts : List He.Fa} {defs : List He.DefD} {tabs : List He.Tab} {lams : List He.Defn} {more : PySem.W.Frag → Bool} {g : Addr → Option Obj} {s : Shared} (q : ∀ a, g a = s.heap.get? a) : obsS n facts defs tabs lams more g = (hookS n facts defs tabs lams more).obs s := by
  obtain rfl : g = s.heap.get? := funext q
  rfl
end Mi

set_option Elab.async false
set_option linter.all false
set_option maxRecDepth 100000
set_option maxHeartbeats 1000000
/-! Mi, part Xg: a block with two fors; a method's value that is a new list of nobody's; xs.pop(i). -/
namespace Mi
open PySem PySem.Spec PyProof.Rows L2
namespace N
noncomputable def loop2 (it : It) (g : G) (vs : List Nat) (mi1 : M It) (g1 : G) (vs1 : List Nat) (te : M D) : List D → List D → Z → Option (List D × Z)
  | [], acc, z => if it.ok z = true then some (acc, z) else none
  | d :: ds, acc, z => if it.ok z = true then match g.run d z with
    | none => none
    | some z1 => match mi1 z1 with
      | none => none
      | some (it1, z2) => if acc.length + it1.items.length ≤ szl then match loop it1 g1 vs1 (ret true) te it1.items acc ⟨wipe z2.s vs1, z2.h⟩ with
        | none => none
        | some (acc', z3) => loop2 it g vs mi1 g1 vs1 te ds acc' ⟨wipe z3.s vs, z3.h⟩
        else none
    else none
noncomputable def comp2 (mi : M It) (g : G) (vs : List Nat) (mi1 : M It) (g1 : G) (vs1 : List Nat) (te : M D) : M (List D) := bnd mi fun it z =>
  if it.items.length ≤ szl ∧ (vs.all fun v => !isOwn z.s[v]?) = true then match loop2 it g vs mi1 g1 vs1 te it.items [] ⟨wipe z.s vs, z.h⟩ with
    | none => none
    | some (acc, z1) => some (acc, ⟨rest z.s z1.s vs, z1.h⟩)
  else none
end N
section
variable {K : Kx} {B : Bs} {rho : List Addr} {om : Nat → Option Addr} {σ : L2.St}
/-- the inner loop -/
theorem lc_in {g : G} {vs : List Nat} {te : M D} {it : It} {J : L2.It} {F1 : Hp} {rho1 : List Addr} {z1 : Z} {H1 : Hp} {Dd : Addr} {acc0 : List D} {accv0 : List V} {xs : List D} {zF : Z} {Nx : Hp → Prop} (hw : ∀ w ∈ g.ws, w ∈ vs) (hn : ∀ v ∈ vs, om v = none) (R1 : Rl K B F1 rho1 om z1 σ H1) (ok : ItOk K F1 rho1 om it J) (f1 : Fresh K B F1 rho1 om H1 Dd) (hD : H1 Dd = some (.lst accv0)) (ra0 : Rps K F1 rho1 acc0 accv0)
    (hc : acc0.length + it.items.length ≤ szl) (hloop : N.loop it g vs (ret true) te it.items acc0 ⟨N.wipe z1.s vs, z1.h⟩ = some (xs, zF))
    (kk : ∀ F3 rho3 H3 accv3, Same F1 F3 → rho1 <+: rho3 → Rl K B F3 rho3 om zF (L2.wipe σ vs) H3 → Fresh K B F3 rho3 om H3 Dd → H3 Dd = some (.lst accv3) → Rps K F3 rho3 xs accv3 → Nx H3) :
    ∃ W1 : Nat → Nat → Hp → Prop, (∃ m, W1 0 m H1) ∧ ∀ j k H, W1 j k H →
      (J.stop j H ∧ Nx H) ∨ (J.go j H ∧ ∃ Nx1 : Hp → Prop, (∀ H', Nx1 H' → ∃ k', k' < k ∧ W1 (j + 1) k' H') ∧ ∀ x H', J.yld j H x H' → Tg K g x (L2.wipe σ vs) H' fun σ3 H5 => L2.wipe σ3 vs = L2.wipe σ vs ∧ Tt K (ret true) σ3 H5 fun b H6 =>
        if b = true then Te K te σ3 H6 fun y H7 => ∃ acc, H7 Dd = some (.lst acc) ∧ acc.length < sizeLine ∧ Nx1 (upd H7 Dd (.lst (acc ++ [y]))) else Nx1 H6) := by
  refine ⟨fun i m H => ∃ F2 rho2 z2 acc accv, Same F1 F2 ∧ rho1 <+: rho2 ∧ Rl K B F2 rho2 om z2 (L2.wipe σ vs) H ∧ Fresh K B F2 rho2 om H Dd ∧ H Dd = some (.lst accv) ∧ Rps K F2 rho2 acc accv ∧ m = it.items.length - i ∧ i ≤ it.items.length ∧ acc.length ≤ acc0.length + i ∧ N.loop it g vs (ret true) te (it.items.drop i) acc z2 = some (xs, zF),
    ⟨_, F1, rho1, _, acc0, accv0, Same.refl _, List.prefix_refl _, R1.wipe hn, f1, hD, ra0, rfl, Nat.zero_le _, Nat.le_refl _, hloop⟩, ?_⟩
  rintro i m H2 ⟨F2, rho2, z2, acc, accv, s2, p2, R2, f2, hD2, ra, rfl, hi, hal, hl⟩
  cases hd : it.items.drop i with
  | nil =>
    rw [hd] at hl
    have hl : (if it.ok z2 = true then some (acc, z2) else none) = some (xs, zF) := hl
    split at hl
    · rename_i hok
      cases hl
      have hi2 : it.items.length ≤ i := List.drop_eq_nil_iff.mp hd
      obtain ⟨o1, o2⟩ := ok B F2 rho2 om _ _ H2 s2 p2 R2 (.inl rfl) hok
      exact .inl ⟨o1 i hi2, kk F2 rho2 H2 accv s2 p2 R2 f2 hD2 ra⟩
    · cases hl
  | cons d ds =>
    rw [hd] at hl
    have hds : it.items.drop (i + 1) = ds := by rw [← List.drop_drop, hd]; rfl
    have hget : it.items[i]? = some d := by
      have := List.getElem?_drop (xs := it.items) (i := i) (j := 0)
      rw [hd] at this
      simpa using this.symm
    have hlt : i < it.items.length := (List.getElem?_eq_some_iff.mp hget).1
    unfold N.loop at hl
    split at hl
    · rename_i hok
      obtain ⟨o1, o2⟩ := ok B F2 rho2 om z2 _ H2 s2 p2 R2 (.inl rfl) hok
      obtain ⟨g1, y1⟩ := o2 i d hget
      split at hl
      · cases hl
      · rename_i zg hg3
        refine .inr ⟨g1, fun H' => ∃ F3 rho3 z3 acc3 accv3, Same F2 F3 ∧ rho2 <+: rho3 ∧ Rl K B F3 rho3 om z3 (L2.wipe σ vs) H' ∧ Fresh K B F3 rho3 om H' Dd ∧ H' Dd = some (.lst accv3) ∧ Rps K F3 rho3 acc3 accv3 ∧ acc3.length ≤ acc0.length + (i + 1) ∧ N.loop it g vs (ret true) te ds acc3 z3 = some (xs, zF), ?_, fun x H3 hy => ?_⟩
        · rintro H' ⟨F3, rho3, z3, acc3, accv3, s3, p3, R3, f3, hD3, ra3, hl3, hll⟩
          exact ⟨it.items.length - (i + 1), by omega, F3, rho3, z3, acc3, accv3, s2.trans s3, p2.trans p3, R3, f3, hD3, ra3, rfl, hlt, hl3, by rw [hds]; exact hll⟩
        · obtain ⟨rfl, F2a, s2a, n2a, R2a, rx⟩ := y1 x H3 hy
          have ra := ra.mono s2a (List.prefix_refl _)
          have f2 : Fresh K B F2a rho2 om _ Dd := ⟨n2a _ _ hD2 (fun _ e => nomatch e) f2.f, f2.r, f2.o, f2.b, f2.t, f2.k⟩
          refine ⟨B, F2a, rho2, om, z2, d, R2a, rx, zg, hg3, fun om' σ' hw' hl' hom Rg => ?_⟩
          have eom : om' = om := by
            funext j
            by_cases c : j ∈ g.ws
            · rw [hn j (hw j c)]
              cases q : om' j with
              | none => rfl
              | some a =>
                have := hom j a q
                rw [hn j (hw j c)] at this
                cases this
            · exact (hw' j c).1
          subst eom
          have ew : L2.wipe σ' vs = L2.wipe σ vs := by
            refine wipe_eq (hl'.trans (wipe_length _ _)) fun j c => ?_
            rw [(hw' j fun q => c (hw j q)).2, wipe_out c]
          refine ⟨ew, _, F2a, rho2, om', zg, Rg.reb, true, zg, rfl, fun F3 rho3 H3 y s3 p3 R3 r3 => ?_⟩
          have r3 : y = true := r3
          subst r3
          obtain ⟨f3, hD3⟩ := f2.through R3 fun i h => h
          rw [hD2] at hD3
          have R3b := Rg.back R3
          refine iteT ?_
          have hl : (match te zg with
            | none => none
            | some (x, z3) => if isPure x = true then N.loop it g vs (ret true) te ds (acc ++ [x]) ⟨N.wipe z3.s vs, z3.h⟩ else none) = some (xs, zF) := hl
          cases hte : te zg with
          | none =>
            rw [hte] at hl
            cases hl
          | some q5 =>
            obtain ⟨x5, z5⟩ := q5
            rw [hte] at hl
            dsimp only at hl
            split at hl
            · rename_i hp5
              refine ⟨_, F3, rho3, om', zg, R3b.reb, x5, z5, hte, fun F4 rho4 H4 w s4 p4 R4 r4 => ?_⟩
              obtain ⟨f4, hD4⟩ := f3.through R4 fun i h => h
              rw [hD3] at hD4
              have R4b := R3b.back R4
              have hzl : accv.length < sizeLine := by
                rw [← ra.length]
                exact Nat.lt_of_lt_of_le (show acc.length < szl by omega) szl_line
              refine ⟨accv, hD4, hzl, ?_⟩
              obtain ⟨R5, f5⟩ := R4b.mutFresh (o := .lst (accv ++ [w])) f4
              have R6 := R5.wipe hn
              rw [ew] at R6
              exact ⟨F4, rho4, _, acc ++ [x5], accv ++ [w], s2a.trans (s3.trans s4), p3.trans p4, R6, f5, upd_same, ((ra.mono s3 p3).mono s4 p4).append (.one (r4.of_pure hp5)), by rw [List.length_append, List.length_singleton]; omega, hl⟩
            · cases hl
    · cases hl
end
theorem lc2_go {K : Kx} {mi mi1 : M It} {g g1 : G} {vs vs1 : List Nat} {te : M D} (hw : ∀ w ∈ g.ws, w ∈ vs) (hw1 : ∀ w ∈ g1.ws, w ∈ vs1) (hv : ∀ w ∈ vs1, w ∈ vs) : ∀ σ H Q, Tf K (N.comp2 mi g vs mi1 g1 vs1 te) σ H Q → tLc2 (Ti K mi) (Tg K g) (Tt K (ret true)) (Ti K mi1) (Tg K g1) (Tt K (ret true)) (Te K te) vs vs1 σ H Q := by
  rintro σ H Q ⟨B, F, rho, om, z, R, xs, z', e, k⟩
  obtain ⟨it, z1, e1, e2⟩ := bnd_some e
  refine ⟨B, F, rho, om, z, R, it, z1, e1, fun F1 rho1 H1 J s1 p1 R1 ok D hD => ?_⟩
  try dsimp only at e2
  split at e2
  · rename_i hc
    split at e2
    · cases e2
    · rename_i accF zF hloop
      cases e2
      have hn : ∀ v ∈ vs, om v = none := fun v hv => by
        cases q : om v with
        | none => rfl
        | some a =>
          obtain ⟨d, hd⟩ := R1.ow v a q
          have := List.all_eq_true.mp hc.2 v hv
          rw [hd] at this
          cases this
      have hn1 : ∀ v ∈ vs1, om v = none := fun v h => hn v (hv v h)
      obtain ⟨R2, f2⟩ := R1.new (o := .lst []) hD
      refine ⟨fun i m H => ∃ F2 rho2 z2 acc accv, Same F1 F2 ∧ rho1 <+: rho2 ∧ Rl K B F2 rho2 om z2 (L2.wipe σ vs) H ∧ Fresh K B F2 rho2 om H D ∧ H D = some (.lst accv) ∧ Rps K F2 rho2 acc accv ∧ m = it.items.length - i ∧ i ≤ it.items.length ∧ N.loop2 it g vs mi1 g1 vs1 te (it.items.drop i) acc z2 = some (xs, zF),
        ⟨_, F1, rho1, _, [], [], Same.refl _, List.prefix_refl _, R2.wipe hn, f2, upd_same, .nil, rfl, Nat.zero_le _, hloop⟩, ?_⟩
      rintro i m H2 ⟨F2, rho2, z2, acc, accv, s2, p2, R2, f2, hD2, ra, rfl, hi, hl⟩
      cases hd : it.items.drop i with
      | nil =>
        rw [hd] at hl
        have hl : (if it.ok z2 = true then some (acc, z2) else none) = some (xs, zF) := hl
        split at hl
        · rename_i hok
          cases hl
          have hi2 : it.items.length ≤ i := List.drop_eq_nil_iff.mp hd
          obtain ⟨o1, o2⟩ := ok B F2 rho2 om _ _ H2 s2 p2 R2 (.inl rfl) hok
          exact .inl ⟨o1 i hi2, k F2 rho2 H2 _ (s1.trans s2) (p1.trans p2) (R1.rest s2 p2 R2 hn) ⟨D, accv, rfl, hD2, f2, ra⟩⟩
        · cases hl
      | cons d ds =>
        rw [hd] at hl
        have hds : it.items.drop (i + 1) = ds := by rw [← List.drop_drop, hd]; rfl
        have hget : it.items[i]? = some d := by
          have := List.getElem?_drop (xs := it.items) (i := i) (j := 0)
          rw [hd] at this
          simpa using this.symm
        have hlt : i < it.items.length := (List.getElem?_eq_some_iff.mp hget).1
        unfold N.loop2 at hl
        split at hl
        · rename_i hok
          obtain ⟨o1, o2⟩ := ok B F2 rho2 om z2 _ H2 s2 p2 R2 (.inl rfl) hok
          obtain ⟨g1', y1⟩ := o2 i d hget
          split at hl
          · cases hl
          · rename_i zg hg3
            cases hm1 : mi1 zg with
            | none =>
              rw [hm1] at hl
              cases hl
            | some q1 =>
              obtain ⟨it1, zi⟩ := q1
              rw [hm1] at hl
              dsimp only at hl
              split at hl
              · rename_i hsz
                cases hlp : N.loop it1 g1 vs1 (ret true) te it1.items acc ⟨N.wipe zi.s vs1, zi.h⟩ with
                | none =>
                  rw [hlp] at hl
                  cases hl
                | some q2 =>
                  obtain ⟨acc', zl⟩ := q2
                  rw [hlp] at hl
                  dsimp only at hl
                  refine .inr ⟨g1', fun H' => ∃ F3 rho3 z3 accv3, Same F2 F3 ∧ rho2 <+: rho3 ∧ Rl K B F3 rho3 om z3 (L2.wipe σ vs) H' ∧ Fresh K B F3 rho3 om H' D ∧ H' D = some (.lst accv3) ∧ Rps K F3 rho3 acc' accv3 ∧ N.loop2 it g vs mi1 g1 vs1 te ds acc' z3 = some (xs, zF), ?_, fun x H3 hy => ?_⟩
                  · rintro H' ⟨F3, rho3, z3, accv3, s3, p3, R3, f3, hD3, ra3, hll⟩
                    exact ⟨it.items.length - (i + 1), by omega, F3, rho3, z3, acc', accv3, s2.trans s3, p2.trans p3, R3, f3, hD3, ra3, rfl, hlt, by rw [hds]; exact hll⟩
                  · obtain ⟨rfl, F2a, s2a, n2a, R2a, rx⟩ := y1 x H3 hy
                    have ra := ra.mono s2a (List.prefix_refl _)
                    have f2 : Fresh K B F2a rho2 om _ D := ⟨n2a _ _ hD2 (fun _ e => nomatch e) f2.f, f2.r, f2.o, f2.b, f2.t, f2.k⟩
                    refine ⟨B, F2a, rho2, om, z2, d, R2a, rx, zg, hg3, fun om' σ' hw' hl' hom Rg => ?_⟩
                    have eom : om' = om := by
                      funext j
                      by_cases c : j ∈ g.ws
                      · rw [hn j (hw j c)]
                        cases q : om' j with
                        | none => rfl
                        | some a =>
                          have := hom j a q
                          rw [hn j (hw j c)] at this
                          cases this
                      · exact (hw' j c).1
                    subst eom
                    have ew : L2.wipe σ' vs = L2.wipe σ vs := by
                      refine wipe_eq (hl'.trans (wipe_length _ _)) fun j c => ?_
                      rw [(hw' j fun q => c (hw j q)).2, wipe_out c]
                    refine ⟨ew, _, F2a, rho2, om', zg, Rg.reb, true, zg, rfl, fun F3 rho3 H3 y s3 p3 R3 r3 => ?_⟩
                    have r3 : y = true := r3
                    subst r3
                    obtain ⟨f3, hD3⟩ := f2.through R3 fun i h => h
                    rw [hD2] at hD3
                    have R3b := Rg.back R3
                    refine iteT ?_
                    refine ⟨_, F3, rho3, om', zg, R3b.reb, it1, zi, hm1, fun F4 rho4 H4 J1 s4 p4 R4 ok1 => ?_⟩
                    obtain ⟨f4, hD4⟩ := f3.through R4 fun i h => h
                    rw [hD3] at hD4
                    have R4b := R3b.back R4
                    refine lc_in hw1 hn1 R4b ok1 f4 hD4 ((ra.mono s3 p3).mono s4 p4) hsz hlp fun F5 rho5 H5 accv5 s5 p5 R5 f5 hD5 ra5 => ?_
                    have R6 := R5.wipe hn
                    have ew2 : L2.wipe (L2.wipe σ' vs1) vs = L2.wipe σ vs := by
                      rw [← ew]
                      exact wipe_eq (wipe_length _ _) fun j c => wipe_out fun q => c (hv j q)
                    rw [ew2] at R6
                    exact ⟨F5, rho5, _, accv5, s2a.trans ((s3.trans s4).trans s5), (p3.trans p4).trans p5, R6, f5, hD5, ra5, hl⟩
              · cases hl
        · cases hl
  · cases e2
section
variable {X : Cx} {Tb : Tbs} {elt tg iter tg1 iter1 : Expr} {scope : Scope} {own : List (Str × Nat)} {pos : Pos} {mi mi1 : M It} {g g1 : G} {te : M D}
theorem mf_lc2 (vs vs1 : List Nat) (hc : X.calm = true) (hN : X.N.Nodup) (hi : PI X tg iter (Ti (kx X Tb) mi)) (ok : BlkOk X.N X.env.scope scope own) (hv : own.map (·.2) = vs) (hv1 : ∀ w ∈ vs1, w ∈ vs)
    (hg : ∀ (s : Shared) (H : Hp) (C : Addr) (cl : List (Str × Addr)) (fp : List Addr), PG (X.blk s H scope (compEnvC scope cl C X.env) fp) tg (Tg (kx X Tb) g))
    (hi1 : ∀ (s : Shared) (H : Hp) (C : Addr) (cl : List (Str × Addr)) (fp : List Addr), PI (X.blk s H scope (compEnvC scope cl C X.env) fp) tg1 iter1 (Ti (kx X Tb) mi1)) (hg1 : ∀ (s : Shared) (H : Hp) (C : Addr) (cl : List (Str × Addr)) (fp : List Addr), PG (X.blk s H scope (compEnvC scope cl C X.env) fp) tg1 (Tg (kx X Tb) g1))
    (he : ∀ (s : Shared) (H : Hp) (C : Addr) (cl : List (Str × Addr)) (fp : List Addr), PE (X.blk s H scope (compEnvC scope cl C X.env) fp) elt (Te (kx X Tb) te)) (hw : ∀ w ∈ g.ws, w ∈ vs) (hw1 : ∀ w ∈ g1.ws, w ∈ vs1) (hs : ∀ x, foldedSetIterable iter X.env x = pure x := by intro _; rfl) (hs1 : ∀ env x, foldedSetIterable iter1 env x = pure x := by intro _ _; rfl) :
    PE X (.ListComp elt [⟨tg, iter, [], 0⟩, ⟨tg1, iter1, [], 0⟩] scope pos) (Tf (kx X Tb) (N.comp2 mi g vs mi1 g1 vs1 te)) := by
  subst hv
  exact pe_imp (pe_lc2 hc hN hi ok hv1 hg (fun _ _ _ _ _ => mts_nil) hi1 hg1 (fun _ _ _ _ _ => mts_nil) he hs hs1) (lc2_go hw hw1 hv1)
theorem ms_frzLc2 {i : Nat} {y : Str} {py spos : Pos} (vs vs1 : List Nat) (hc : X.calm = true) (hN : X.N.Nodup) (hy : X.N[i]? = some y) (hyl : X.env.scope.names.lookup y = some .local)
    (hsw : swapsWith (.ListComp elt [⟨tg, iter, [], 0⟩, ⟨tg1, iter1, [], 0⟩] scope pos) (some (.Name y py)) spos.line X.env = pure true) (hi : PI X tg iter (Ti (kx X Tb) mi)) (ok : BlkOk X.N X.env.scope scope own) (hv : own.map (·.2) = vs) (hv1 : ∀ w ∈ vs1, w ∈ vs)
    (hg : ∀ (s : Shared) (H : Hp) (C : Addr) (cl : List (Str × Addr)) (fp : List Addr), PG (X.blk s H scope (compEnvC scope cl C X.env) fp) tg (Tg (kx X Tb) g))
    (hi1 : ∀ (s : Shared) (H : Hp) (C : Addr) (cl : List (Str × Addr)) (fp : List Addr), PI (X.blk s H scope (compEnvC scope cl C X.env) fp) tg1 iter1 (Ti (kx X Tb) mi1)) (hg1 : ∀ (s : Shared) (H : Hp) (C : Addr) (cl : List (Str × Addr)) (fp : List Addr), PG (X.blk s H scope (compEnvC scope cl C X.env) fp) tg1 (Tg (kx X Tb) g1))
    (he : ∀ (s : Shared) (H : Hp) (C : Addr) (cl : List (Str × Addr)) (fp : List Addr), PE (X.blk s H scope (compEnvC scope cl C X.env) fp) elt (Te (kx X Tb) te)) (hw : ∀ w ∈ g.ws, w ∈ vs) (hw1 : ∀ w ∈ g1.ws, w ∈ vs1) (hs : ∀ x, foldedSetIterable iter X.env x = pure x := by intro _; rfl) (hs1 : ∀ env x, foldedSetIterable iter1 env x = pure x := by intro _ _; rfl) :
    PS X (.Assign [.Name y py] (.ListComp elt [⟨tg, iter, [], 0⟩, ⟨tg1, iter1, [], 0⟩] scope pos) spos) (Ts (kx X Tb) (C.set i (E.frz (N.comp2 mi g vs mi1 g1 vs1 te)))) := by
  subst hv
  exact ps_imp (ps_setLc2 hc hN hy hyl hsw hi ok hv1 hg (fun _ _ _ _ _ => mts_nil) hi1 hg1 (fun _ _ _ _ _ => mts_nil) he hs hs1) (set_go fun σ H Q h => lc2_go hw hw1 hv1 σ H Q (frz_go σ H Q h))
end
/-! ### a method's value that is a new list of nobody's -/
theorem callV_sp {K : Kx} {B : Bs} {F2 : Hp} {rho2 : List Addr} {om : Nat → Option Addr} {z2 : Z} {σ : L2.St} {H1 : Hp} {n : Nat} {mf : Fn} {xs ds h1 : List D} {vs : List V} {Q : VK} {E : XK} (R : Rl K B F2 rho2 om z2 σ H1) (r1 : Rps K F2 rho2 xs vs) (hl : vs.length = n) (hc : callV z2.h (mf xs z2.h) = some (ds, h1))
    (k : ∀ F' H' v, Same F2 F' → Rl K B F' rho2 om ⟨z2.s, h1⟩ σ H' → rF K B F' rho2 om H' ds v → Q v H') : spM n K mf vs H1 Q E := by
  unfold callV at hc
  split at hc
  · rename_i m h' hd
    split at hc
    · rename_i ds' hds
      split at hc
      · rename_i cc
        obtain ⟨c1, c2, c3, c4⟩ := cc
        cases hc
        subst c1
        refine ⟨hl, F2, rho2, z2.h, xs, R.rh, r1, _, _, hd, fun F' rho' H' v e1 e2 r fr nf nr q => ?_⟩
        have R4 := R.called e1 e2 r fr nf nr
        obtain ⟨ps, rfl⟩ := e2
        have hlen : z2.h.length = rho2.length := R.rh.len
        have hl2 : (rho2 ++ ps).length = z2.h.length + 1 := by rw [← r.len, c2]
        obtain ⟨p, rfl⟩ : ∃ p, ps = [p] := by
          rw [List.length_append] at hl2
          match ps, hl2 with
          | [], h => simp at h; omega
          | [p], _ => exact ⟨p, rfl⟩
          | _ :: _ :: _, h => simp at h; omega
        have eh : h' = h'.take z2.h.length ++ [.lst ds] := by
          have h5 : h'.drop z2.h.length = [.lst ds] := by
            rw [List.drop_eq_getElem_cons (by omega), List.drop_eq_nil_of_le (by omega)]
            rw [List.getElem?_eq_getElem (by omega)] at hds
            rw [Option.some.inj hds]
          rw [← h5, List.take_append_drop]
        rw [eh] at R4
        have ht : (h'.take z2.h.length).length = z2.h.length := by rw [List.length_take]; omega
        obtain ⟨R5, f5⟩ := Rl.letgo (s := z2.s) (h := z2.h) R R4 ht fun i x hx => by
          have hi : i < z2.h.length := by have := (List.getElem?_eq_some_iff.mp hx).1; omega
          rw [List.getElem?_take_of_lt hi] at hx
          exact c4 i x hi hx
        have last : (rho2 ++ [p])[z2.h.length]? = some p := by rw [hlen, List.getElem?_append_right (Nat.le_refl _), Nat.sub_self]; rfl
        obtain ⟨vs2, o1, o2⟩ := r.obs z2.h.length (.lst ds) p hds last
        have hv : v = .ref p := by
          cases q with
          | ref q => rw [last] at q; cases q; rfl
        subst hv
        exact k F' H' _ e1 R5 ⟨p, vs2, rfl, o1, f5, Rps.conv1 (fun d hd v r => r.blw hlen.symm 11 (List.all_eq_true.mp c3 d hd)) o2⟩
      · cases hc
    · cases hc
  · cases hc
namespace N
noncomputable def methF (nm m : Str) (mf : Fn) (o : M D) (as : List (M D)) : M (List D) := bnd o fun x z => match insOf x z with
  | some (nm2, fs) => if nm2 = nm ∧ (fs.lookup m).isNone = true then bnd (E.args as) (fun xs z => match callV z.h (mf (x :: xs) z.h) with
      | some (ds, h') => some (ds, ⟨z.s, h'⟩)
      | none => none) z else none
  | none => none
end N
theorem methF_go {K : Kx} {nm m : Str} {C : Addr} {n : Nat} {mf : Fn} {mo : M D} {ms : List (M D)} {Ee : XK} (hC : ∀ q ∈ K.tb.c, q.1 = nm → q.2 = C) (hn : ms.length = n) : ∀ σ H Q, Tf K (N.methF nm m mf mo ms) σ H Q → tMeth C m (spM (n + 1) K mf) [] Ee (Te K mo) (Ta K (E.args ms)) σ H Q := by
  rintro σ H Q ⟨B, F, rho, om, z, g⟩
  refine (g.bnd.imp fun _ _ H1 _ _ v _ _ _ _ _ ⟨F2, rho2, z2, x, eg1, s1, p1, r1, g1⟩ => ?_).tx (R := rV K)
  obtain ⟨R, d, z4, e, k⟩ := g1
  dsimp only at e
  split at e
  · rename_i nm2 fs hi
    split at e
    · rename_i c
      obtain ⟨c1, c2⟩ := c
      subst c1
      obtain ⟨rx, a, C2, dx, es, rfl, h1, h2, h3⟩ := insOf_ok R r1 hi c2
      have h4 : C2 = C := hC _ h1 rfl
      subst h4
      refine ⟨a, dx, es, rfl, h2, h3, ?_⟩
      have g2 : Go K (rF K) B F2 rho2 om (bnd (E.args ms) (fun xs z => match callV z.h (mf (x :: xs) z.h) with
        | some (ds, h') => some (ds, ⟨z.s, h'⟩)
        | none => none)) z2 σ H1 Q := ⟨R, d, z4, e, k⟩
      refine (g2.bnd.imp fun _ _ H3 _ _ vs _ _ _ _ _ ⟨F4, rho4, z5, xs, eg2, s2, p2, r2, g3⟩ => ?_).tx (R := rA K)
      obtain ⟨R3, d3, z6, e3, k3⟩ := g3
      dsimp only at e3
      split at e3
      · rename_i ds h' hc
        cases e3
        rw [List.append_nil]
        have hx := args_len eg2
        exact callV_sp R3 (.cons (rx.mono s2 p2) r2) (by rw [List.length_cons, ← r2.length, hx, hn]) hc fun F' H' v e1 R4 q => k3 F' rho4 H' v e1 (List.prefix_refl _) R4 q
      · cases e3
    · cases e
  · cases e
section
variable {X : Cx} {Tb : Tbs}
theorem mf_meth0 {k : Nat} {f C : Addr} {fd : FuncData} {ps : List Str} {nm m : Str} {apos pos : Pos} {o : Expr} {mf : Fn} {mo : M D} {pl : Sem Bool} (hC : ∀ q ∈ Tb.c, q.1 = nm → q.2 = C) (c : Cls X.K C) (hm : Meth X.K C m f)
    (G : FnOk X.prog X.w X.K X.mg X.base CX0 k f fd ps (spM 1 (kx X Tb) mf)) (hr : Room k X.A) (hb : Binds X.K fd ps []) (ho : PE X o (Te (kx X Tb) mo))
    (ht : eval (.Call (.Attribute o m apos) [] [] pos) X.env = (do
      let ov ← eval o X.env
      standAt apos.atName
      let (f, first) ← holding [ov] (getMethod ov m pl)
      callWith pos f first (backTo pos (starEach [] X.env)) (backToKw pos (keywordEach [] X.env))) := by rfl) :
    PE X (.Call (.Attribute o m apos) [] [] pos) (Tf (kx X Tb) (N.methF nm m mf mo [])) :=
  pe_imp (pe_meth0 (E := E0) ho c hm G hr hb .nil pass0 ht) fun σ H Q h => (methF_go (Ee := E0) (n := 0) hC rfl σ H Q h).mono fun v H1 ⟨a, dx, fs, h1, h2, h3, h4⟩ => ⟨a, dx, fs, h1, h2, h3, ta_nil h4⟩
end
section
variable {α β γ : Type} {z z1 : Z} {s s' s2 : List Sl} {h h1 : List D}
theorem ev_methFP {nm f : Str} {mf : Fn} {o : M D} {as : List (M D)} {x : D} {fs : List (Str × D)} {xs : List D} {r : List α} {e : α → D} {n : Nat} (e0 : o z = some (x, z1)) (hi : ∀ z, insOf x z = some (nm, fs)) (h3 : (fs.lookup f).isNone = true) (e1 : E.args as z1 = some (xs, ⟨s, h⟩)) (e2 : mf (x :: xs) h = some (.ref h.length, h ++ [.lst (r.map e)])) (b : BlE n e) (hn : n ≤ 11 := by decide) :
    N.methF nm f mf o as z = some (r.map e, ⟨s, h⟩) := by
  unfold N.methF
  rw [bnd_of e0]
  simp only [hi]
  rw [if_pos ⟨trivial, h3⟩, bnd_of e1]
  have e3 : callV h (mf (x :: xs) h) = some (r.map e, h) := by
    rw [e2]
    unfold callV
    dsimp only
    rw [List.getElem?_append_right (Nat.le_refl _), Nat.sub_self]
    dsimp only [List.getElem?_cons_zero]
    rw [if_pos ⟨rfl, by rw [List.length_append]; rfl, all_blE b hn _, fun i x hi hx => by
      rw [List.getElem?_append_left hi] at hx
      exact .inl hx⟩, List.take_left]
  simp only [e3]
theorem map_erase {f : α → β} : ∀ (xs : List α) (k : Nat), (xs.map f).eraseIdx k = (xs.eraseIdx k).map f
  | [], _ => rfl
  | _ :: _, 0 => rfl
  | x :: xs, k + 1 => by simp [map_erase xs k]
/-! ### xs.pop(i) of a slot's own list, its value stored at once -/
def Pl.popAt (xs : List α) (j : Int) : Option (α × List α) := if -(2 ^ 63) ≤ j ∧ j < 2 ^ 63 then (ixN xs.length j).bind fun k => (xs[k]?).bind fun x => some (x, xs.eraseIdx k) else none
theorem Rf.popAtG {δ : Type} {Φ : δ → Fl → Z → Prop} {rest : C} {i : Nat} {g : G} {m : M D} {xs : List α} {j : Int} {K : α × List α → Option δ} (e : α → D) (hi : s[i]? = some (.own (.lst (xs.map e)))) (hm : m ⟨s, h⟩ = some (.int j, ⟨s, h1⟩)) (hp : ∀ x, isPure (e x) = true) {s1 s' : α × List α → List Sl} (hs : ∀ n : α × List α, s.set i (.own (.lst (n.2.map e))) = s1 n) (hg : ∀ n : α × List α, g.run (e n.1) ⟨s1 n, h1⟩ = some ⟨s' n, h1⟩)
    (k : ∀ n, Rf (K n) rest ⟨s' n, h1⟩ Φ) : Rf ((Pl.popAt xs j).bind K) (C.seq (C.asg g (E.chg U.popAt (E.var i) [m])) rest) ⟨s, h⟩ Φ := Rf.bd fun n hn => by
  unfold Pl.popAt at hn
  split at hn
  · rename_i hc
    obtain ⟨kk, h2, h3⟩ := bI hn
    obtain ⟨x, h4, h5⟩ := bI h3
    cases h5
    refine Rf.asg0 (d := e x) (z1 := ⟨s1 (x, xs.eraseIdx kk), h1⟩) (ev_chgN (ev_varO hi) hi (ev_args hm ev_args0 rfl) hi (?_ : U.popAt _ _ = some (e x, (xs.eraseIdx kk).map e)) (hs (x, xs.eraseIdx kk))) (hp x) (hg (x, xs.eraseIdx kk)) (k (x, xs.eraseIdx kk))
    unfold U.popAt
    dsimp only
    rw [if_pos hc, List.length_map, h2]
    dsimp only
    rw [List.getElem?_map, h4]
    dsimp only [Option.map_some]
    rw [map_erase]
  · cases hn
/-! ### a block with two fors -/
def Pl.cmp2 (ys : α → Option (List β)) (f : α → β → Option γ) : List γ → List α → Option (List γ)
  | acc, [] => some acc
  | acc, x :: xs => (ys x).bind fun l => if acc.length + l.length ≤ szl then (Pl.cmp (fun _ => some true) (f x) l).bind fun r => Pl.cmp2 ys f (acc ++ r) xs else none
def Pl.comp2 (ys : α → Option (List β)) (f : α → β → Option γ) (xs : List α) : Option (List γ) := if xs.length ≤ szl then Pl.cmp2 ys f [] xs else none
theorem ev_cmp2 {mi mi1 : M It} {g g1 : G} {vs vs1 : List Nat} {te : M D} {ys : α → Option (List β)} {f : α → β → Option γ} {xs : List α} {r : List γ} (e : α → D) (e1 : β → D) (e2 : γ → D) (hm : mi z = some (⟨xs.map e, none⟩, ⟨s, h⟩)) (ho : (vs.all fun v => !N.isOwn s[v]?) = true) (hw : N.wipe s vs = s') (hr : N.rest s s' vs = s2)
    (step : ∀ x, ∃ sx sw, g.run (e x) ⟨s', h⟩ = some ⟨sx, h⟩ ∧ N.wipe sx vs1 = sw ∧ N.wipe sw vs = s' ∧ (∀ l, ys x = some l → mi1 ⟨sx, h⟩ = some (⟨l.map e1, none⟩, ⟨sx, h⟩)) ∧ ∀ y, ∃ sy, g1.run (e1 y) ⟨sw, h⟩ = some ⟨sy, h⟩ ∧ N.wipe sy vs1 = sw ∧ ∀ r, f x y = some r → te ⟨sy, h⟩ = some (e2 r, ⟨sy, h⟩) ∧ isPure (e2 r) = true)
    (q : Pl.comp2 ys f xs = some r) : N.comp2 mi g vs mi1 g1 vs1 te z = some (r.map e2, ⟨s2, h⟩) := by
  have main : ∀ (xs0 : List α) (xs : List α) (acc r : List γ), Pl.cmp2 ys f acc xs = some r → N.loop2 ⟨xs0.map e, none⟩ g vs mi1 g1 vs1 te (xs.map e) (acc.map e2) ⟨s', h⟩ = some (r.map e2, ⟨s', h⟩) := by
    intro xs0 xs
    induction xs with
    | nil =>
      intro acc r q
      cases q
      have ok : (⟨xs0.map e, none⟩ : It).ok ⟨s', h⟩ = true := rfl
      rw [List.map_nil, N.loop2, if_pos ok]
    | cons x xs ih =>
      intro acc r q
      have ok : (⟨xs0.map e, none⟩ : It).ok ⟨s', h⟩ = true := rfl
      rw [Pl.cmp2] at q
      obtain ⟨l, q1, q2⟩ := bI q
      split at q2
      · rename_i hsz
        obtain ⟨r1, q3, q4⟩ := bI q2
        obtain ⟨sx, sw, a1, a2, a3, a4, a5⟩ := step x
        rw [List.map_cons, N.loop2, if_pos ok, a1]
        dsimp only
        rw [a4 l q1]
        dsimp only
        rw [if_pos (by rw [List.length_map, List.length_map]; exact hsz), a2]
        have hl := cmp_loop (it := ⟨l.map e1, none⟩) (g := g1) (vs := vs1) (tt := Mi.ret true) (te := te) (t := fun _ => some true) (f := f x) e1 e2 (s' := sw) (h := h) rfl (fun y => by
          obtain ⟨sy, b1, b2, b3⟩ := a5 y
          exact ⟨_, sy, b1, fun b hb => by cases hb; rfl, b2, fun r hr => ⟨sy, (b3 r hr).1, (b3 r hr).2, b2⟩⟩) l (acc.map e2) r1 q3
        rw [hl]
        dsimp only
        rw [a3, ← List.map_append]
        exact ih _ _ q4
      · cases q2
  unfold Pl.comp2 at q
  split at q
  · rename_i hl
    unfold N.comp2
    rw [bnd_of hm]
    rw [if_pos ⟨by rw [List.length_map]; exact hl, ho⟩, hw]
    have m := main xs xs [] r q
    rw [List.map_nil] at m
    rw [m]
    dsimp only
    rw [hr]
  · cases q
end
theorem dkk_keys {κ α : Type} {Y : KEnc κ} {e : α → D} {f : κ → D} {kvs : List (κ × α)} (hf : ∀ k, dkey (Y.k k) = f k) : dkeys (eK Y e kvs) = some ((kvs.map Prod.fst).map f) := by
  unfold dkeys
  dsimp only
  rw [List.map_map, List.map_map]
  congr 1
  apply List.map_congr_left
  intro kv _
  exact hf _
@[reducible] def Pl.tagS (tags : List Str) (i : Fin tags.length) : Str := tags[i]
theorem Dr.q_draw2 {s : DS} {many : Int} (tl : List D) {r : Int × DS} (hr : Pl.draw s many = some r) : Dr.m_law_draw2 [.ref 1, .int many] (stT s tl) = some (.int r.1, stT r.2 tl) := by
  have e0 := Dr.q_draw tl hr
  have hm : 0 < many := by
    unfold Pl.draw at hr
    split at hr
    · rename_i c; exact c.1
    · cases hr
  rw [← e0]
  unfold Dr.m_law_draw2 Dr.m_law_draw fn
  have t : Dr.st_law_draw_0 ⟨slots 5 [.ref 1, .int many], stT s tl⟩ = some (.nx, ⟨slots 5 [.ref 1, .int many], stT s tl⟩) := by
    have e := tv (ev_lt (z := ⟨slots 5 [.ref 1, .int many], stT s tl⟩) (ev_var (n := 1) (d := .int many) rfl) (ev_c (d := .int 1)))
    rw [decide_eq_false (by omega)] at e
    exact cs_iteF e cs_skip
  have t2 : (C.seq Dr.st_law_draw_0 Dr.b_law_draw) ⟨slots 5 [.ref 1, .int many], stT s tl⟩ = Dr.b_law_draw ⟨slots 5 [.ref 1, .int many], stT s tl⟩ := cs_nx t rfl
  rw [t2]
/-- walking over a written tuple -/
theorem ev_itsPK {α : Type} {a : M D} {z z1 : Z} {xs : List α} {e : α → D} (h1 : a z = some (.kt (xs.map e), z1)) : I.seq a z = some (⟨xs.map e, none⟩, z1) := by unfold I.seq; rw [bnd_of h1]
theorem ev_itsCK {α : Type} {a : M D} {z z1 : Z} {xs : List α} {e : α → D} (h1 : a z = some (.kt (xs.map e), z1)) : I.seqC a z = some (⟨xs.map e, none⟩, z1) := by unfold I.seqC; rw [bnd_of h1]; rfl
/-! ### defs that may raise, evaluated -/
section
variable {c : C} {a b : CE} {z z1 z2 : Z} {f : Fl} {x : Xn} {t : M Bool} {p : Bool} {m : M D} {s nm fd : Str} {as : List (M D)} {xs ds h' : List D} {mf : FnE} {r : D ⊕ Xn}
theorem ce_seqN (h : a z = some (.fl .nx, z1)) : CE.seq a b z = b z1 := by unfold CE.seq; rw [h]
theorem ce_seqX (h : a z = some (.ex x, z1)) : CE.seq a b z = some (.ex x, z1) := by unfold CE.seq; rw [h]
theorem ce_lift (h : c z = some (f, z1)) : CE.lift c z = some (.fl f, z1) := by unfold CE.lift; rw [h]
theorem ce_ite (h : t z = some (p, z1)) : CE.ite t a b z = if p = true then a z1 else b z1 := by unfold CE.ite; rw [h]; cases p <;> rfl
theorem ce_raise (h : m z = some (.str s, z1)) : CE.raise nm fd m z = some (.ex ⟨nm, fd, s⟩, z1) := by unfold CE.raise; rw [h]
/-- if c: raise X(..) -/
theorem ce_guard (ht : t z = some (p, z1)) (hm : m z1 = some (.str s, z1)) : CE.seq (CE.ite t (CE.raise nm fd m) (CE.lift C.skip)) b z = if p = true then some (.ex ⟨nm, fd, s⟩, z1) else b z1 := by
  cases p with
  | true => rw [if_pos rfl, ce_seqX]; rw [ce_ite ht, if_pos rfl]; exact ce_raise hm
  | false => rw [if_neg (by decide), ce_seqN]; rw [ce_ite ht, if_neg (by decide)]; rfl
theorem ce_guard1 (ht : t z = some (p, z1)) (hm : m z1 = some (.str s, z1)) : CE.ite t (CE.raise nm fd m) (CE.lift C.skip) z = if p = true then some (.ex ⟨nm, fd, s⟩, z1) else some (.fl .nx, z1) := by
  rw [ce_ite ht]
  cases p with
  | true => rw [if_pos rfl, if_pos rfl]; exact ce_raise hm
  | false => rfl
theorem fnE_x {n k : Nat} (hl : ds.length = k) (h : a ⟨slots n ds, h'⟩ = some (.ex x, z)) : fnE n k a ds h' = some (.inr x, z.h) := by unfold fnE; rw [if_pos hl, h]
theorem fnE_nx {n k : Nat} (hl : ds.length = k) (h : a ⟨slots n ds, h'⟩ = some (.fl .nx, z)) : fnE n k a ds h' = some (.inl .non, z.h) := by unfold fnE; rw [if_pos hl, h]
theorem fnE_rt {n k : Nat} {d : D} (hl : ds.length = k) (h : a ⟨slots n ds, h'⟩ = some (.fl (.rt d), z)) : fnE n k a ds h' = some (.inl d, z.h) := by unfold fnE; rw [if_pos hl, h]
theorem ee_call (h1 : E.args as z = some (xs, z1)) (h2 : mf xs z1.h = some (r, h')) : EE.call mf as z = some (r, ⟨z1.s, h'⟩) := by unfold EE.call; rw [h1]; dsimp only; rw [h2]
theorem ee_meth {nm f : Str} {o : M D} {d : D} {fs : List (Str × D)} (h0 : o z = some (d, z1)) (hi : insOf d z1 = some (nm, fs)) (hf : (fs.lookup f).isNone = true) (h1 : E.args as z1 = some (xs, z2)) (h2 : mf (d :: xs) z2.h = some (r, h')) : EE.meth nm f mf o as z = some (r, ⟨z2.s, h'⟩) := by
  unfold EE.meth; rw [h0]; dsimp only; rw [hi]; dsimp only; rw [if_pos ⟨rfl, hf⟩, h1]; dsimp only; rw [h2]
theorem ce_dropV {e : ME} {d : D} (h : e z = some (.inl d, z1)) : CE.drop e z = some (.fl .nx, z1) := by unfold CE.drop; rw [h]
theorem ce_dropX {e : ME} (h : e z = some (.inr x, z1)) : CE.drop e z = some (.ex x, z1) := by unfold CE.drop; rw [h]
theorem c_tryV {i : Nat} {ct : Xn → Option C} (h : a z = some (.fl f, z1)) : C.tryAs i a ct z = some (f, z1) := by unfold C.tryAs; rw [h]
theorem c_tryX {i : Nat} {ct : Xn → Option C} (h : a z = some (.ex x, z1)) (hi : i < z1.s.length) (hc : ct x = some c) (h2 : c ⟨z1.s.set i .no, z1.h⟩ = some (f, z2)) : C.tryAs i a ct z = some (f, ⟨z2.s.set i .no, z2.h⟩) := by
  unfold C.tryAs; rw [h]; dsimp only; rw [if_pos hi, hc]; dsimp only; rw [h2]
end
end Mi

set_option Elab.async false
set_option linter.all false
set_option maxRecDepth 100000
set_option maxHeartbeats 1000000
/-! Mi, part Xh: an instance made by keywords whose __init__ may raise. -/
namespace L2
open PySem PySem.Spec PyProof.Rows
/-- C(.., k = v, ..): the exceptions are wished for by the slots -/
def tMakeKW (C : Addr) (n m : Nat) (sp : Sp) (gV : List V → List V → List V) (E : St → XK) (t tk : TA) : TE := fun σ H Q => t σ H fun vs H1 => tk σ H1 fun zs H2 => vs.length = n ∧ zs.length = m ∧ ∀ x dx, H2 x = none → H2 dx = none → dx ≠ x →
  sp (gV (.ref x :: vs) zs) (upd (upd H2 dx (.own x)) x (.ins C dx [])) (fun v H3 => v = .non ∧ Q (.ref x) H3) (E σ)
section
variable {X : Cx} {CX : CXT} {k n : Nat} {f C : Addr} {fd : FuncData} {ps ks : List Str} {sp : Sp} {x : Str} {p pos : Pos} {e : Expr} {es : List Expr} {kws : List Keyword} {t tk : TA} {g : List Value → List Value → List Value} {gV : List V → List V → List V}
theorem run_makeKS {E : XK} {pins : List (Addr × Obj)} {σ : St} {H : Hp} {s : Shared} {Q : VK} {us ws : List Value} {vs zs : List V} (M : Mk X.K C f) (F : FnOk X.prog X.w X.K X.mg X.base CX k f fd ps sp) (hr : Room (k + 1) X.A) (hb : KBn X.K fd ps (n + 1) ks g gV) (hx : PassesAt CX X σ E)
    (I : Inv X pins σ H s) (r : Vals vs us) (rz : Vals zs ws) (l1 : vs.length = n) (l2 : zs.length = ks.length)
    (h : ∀ x dx, H x = none → H dx = none → dx ≠ x → sp (gV (.ref x :: vs) zs) (upd (upd H dx (.own x)) x (.ins C dx [])) (fun v H2 => v = .non ∧ Q (.ref x) H2) E) :
    wpAny (model X.prog X.w) X.A (call (.ref C) us (ks.zip ws)) (EP X pins σ Q) X.xe s := by
  have hq := h (s.heap.objs.size + 1) s.heap.objs.size (I.hok.fresh (Nat.le_succ _)) (I.hok.fresh (Nat.le_refl _)) (Nat.ne_of_lt (Nat.lt_succ_self _))
  have I2 := Inv.made (C := C) I
  have r1 : Vals (V.ref (s.heap.objs.size + 1) :: vs) (Value.ref (s.heap.objs.size + 1) :: us) := .cons rfl r
  have r2 := hb.rel r1 rz
  have n1 : (Value.ref (s.heap.objs.size + 1) :: us).length = n + 1 := by
    rw [List.length_cons, ← r.length, l1]
  refine wpAny_call (make_map (f := f) I.kIn M.makes M.init (beq_iff_eq.mp M.fn) (codeAny_mono (F.run _ X.stack _ _ ⟨Value.ref (s.heap.objs.size + 1) :: us, ks.zip ws⟩ (g (Value.ref (s.heap.objs.size + 1) :: us) ws) _ _ E (hr.make C us (ks.zip ws))
    (I2.env0.make C us (ks.zip ws)) (hb.to _ (Value.ref (s.heap.objs.size + 1) :: us) ws I2.kIn n1 (rz.length.symm.trans l2)) r2 hq) fun r s' hq' => ?_))
  cases r with
  | error e => exact hx pins _ _ e s' I2 hq'
  | ok fl =>
    cases fl with
    | ret u =>
      obtain ⟨v, H', I3, rv, ev, q3⟩ := I2.after hq'
      subst ev
      exact ⟨rv, ⟨V.ref (s.heap.objs.size + 1), H', I3, rfl, q3⟩⟩
    | next => exact False.elim hq'
    | brk => exact False.elim hq'
    | cont => exact False.elim hq'
theorem pe_makeK0S {E : St → XK} (M : Mk X.K C f) (F : FnOk X.prog X.w X.K X.mg X.base CX k f fd ps sp) (hr : Room (k + 1) X.A) (hg : Gl X x) (hm : X.mg x = some (.ref C)) (hb : KBn X.K fd ps 1 ks g gV) (hx : ∀ σ, PassesAt CX X σ (E σ)) (hkw : PK X kws tk)
    (hall : (backToKw pos (keywordEach kws X.env)).all (·.1.isSome) = true := by rfl) (hks : (backToKw pos (keywordEach kws X.env)).filterMap (·.1) = ks := by rfl) (hdb : (x == ("__debug__" : Str)) = false := by decide)
    (hpl : ((backTo pos (starEach [] X.env)).any (·.1) || (backToKw pos (keywordEach kws X.env)).any (·.1.isNone)) = false := by rfl) :
    PE X (.Call (.Name x p) [] kws pos) (tMakeKW C 0 ks.length sp gV E tNil tk) := by
  refine ⟨fun pins s σ H Q I h => ?_⟩
  refine wpAny_Call_Name_kw (ld_glob I hg hm ?_ hdb)
  refine PySem.W.callWith_KW0 (h₀ := X.base) I.ok.mod.kin M.kp hall ?_ hpl
  refine thn (hkw.run pos pins s σ H _ I h) fun ws s2 ⟨zs, H2, I2, rz, l1, l2, q2⟩ => ⟨I2.kIn, ?_⟩
  rw [hks]
  exact run_makeKS (us := []) (vs := []) M F hr hb (hx σ) I2 .nil rz rfl l2 q2
end
end L2
namespace Mi
open PySem PySem.Spec PyProof.Rows L2
open Classical in
noncomputable def EE.mk (nm : Str) (mf : FnE) (g : List D → List D) (ms : List (M D)) : ME := fun z => match E.args ms z with
  | some (xs, z1) => match mf (.ref z1.h.length :: g xs) (z1.h ++ [.ins nm []]) with
    | some (.inl d0, h') => match mkV z1.h (some (d0, h')) with
      | some d => some (.inl d, z1)
      | none => none
    | some (.inr x, h') => if ∃ nm2 fs, h' = z1.h ++ [.ins nm2 fs] then some (.inr x, z1) else none
    | none => none
  | none => none
theorem mx_mk {X : Cx} {Tb : Tbs} {W : WX} {k n m : Nat} {f C : Addr} {fd : FuncData} {ps ks : List Str} {x : Str} {p pos : Pos} {kws : List Keyword} {gL : List Value → List Value → List Value} {gW : List V → List V → List V} {mf : FnE} {g : List D → List D} {gV : List V → List V} {ms : List (M D)} (tk : Takes X W) (hC : (x, C) ∈ Tb.c) (Mm : Mk X.K C f)
    (G : FnOk X.prog X.w X.K X.mg X.base (L2.CX X.prog X.w) k f fd ps (spE (n + 1) (kx X Tb) mf)) (hr : Room (k + 1) X.A) (hg : Gl X x) (hm : X.mg x = some (.ref C)) (hb : KBn X.K fd ps 1 ks gL gW) (hW : ∀ a zs, zs.length = m → gW [a] zs = a :: gV zs) (al : Alike (kx X Tb) m n g gV) (hms : ms.length = m) (hkl : ks.length = m) (hkw : PK X kws (Ta (kx X Tb) (E.args ms)))
    (hall : (backToKw pos (keywordEach kws X.env)).all (·.1.isSome) = true := by rfl) (hks : (backToKw pos (keywordEach kws X.env)).filterMap (·.1) = ks := by rfl) (hdb : (x == ("__debug__" : Str)) = false := by decide)
    (hpl : ((backTo pos (starEach [] X.env)).any (·.1) || (backToKw pos (keywordEach kws X.env)).any (·.1.isNone)) = false := by rfl) : PE X (.Call (.Name x p) [] kws pos) (TeE (kx X Tb) W (EE.mk x mf g ms)) := by
  subst hkl
  refine pe_imp (pe_makeK0S (E := WE W) Mm G hr hg hm hb (passAt tk) hkw hall hks hdb hpl) fun σ H Q ⟨B, F, rho, om, z, R, r, z', e, kk⟩ => ?_
  unfold EE.mk at e
  split at e
  case h_2 => cases e
  rename_i xs z2 eg1
  have hx := args_len eg1
  refine ⟨B, F, rho, om, z, R, xs, z2, eg1, fun F2 rho2 H1 zs s1 p1 R r1 => ?_⟩
  refine ⟨rfl, by rw [← r1.length, hx, hms], fun x0 dx hnx hdx hne => ?_⟩
  rw [hW _ _ (by rw [← r1.length, hx, hms])]
  have R1 := R.new (o := .own x0) hdx
  have hx2 : (upd H1 dx (.own x0)) x0 = none := by rw [upd_ne (show x0 ≠ dx from fun c => hne c.symm)]; exact hnx
  have R2 := R1.1.new (o := .ins C dx []) hx2
  have R3 := R2.1.share R2.2 (d := .ins x []) ⟨C, dx, [], hC, upd_same, rfl, .nil⟩
  obtain ⟨a1, a2⟩ := al (by rw [hx, hms]) (r1.mono (Same.refl _) (List.prefix_append rho2 [x0]))
  have back : ∀ {F' : Hp} {rho' : List Addr} {H' : Hp} {nm2 : Str} {fs : List (Str × D)}, Same F2 F' → (rho2 ++ [x0]) <+: rho' → Rh (kx X Tb) F' rho' (z2.h ++ [.ins nm2 fs]) H' → Rl (kx X Tb) B F' rho' om ⟨z2.s, z2.h ++ [.ins nm2 fs]⟩ σ H' → rho' = rho2 ++ [x0] ∧ ∃ C2 dx2 es, (nm2, C2) ∈ (kx X Tb).tb.c ∧ es.map Prod.fst = fs.map Prod.fst ∧ Rps (kx X Tb) F' (rho2 ++ [x0]) (fs.map Prod.snd) (es.map Prod.snd) ∧ H' x0 = some (.ins C2 dx2 es) := by
    intro F' rho' H' nm2 fs e1 e2 r R4
    have er : rho' = rho2 ++ [x0] := by
      obtain ⟨tl, ht⟩ := e2
      have hl := r.len
      rw [← ht, List.length_append, List.length_append, List.length_append, ← R.rh.len] at hl
      cases tl with
      | nil => rw [← ht, List.append_nil]
      | cons b tl => simp at hl
    subst er
    have last : (rho2 ++ [x0])[rho2.length]? = some x0 := by rw [List.getElem?_append_right (Nat.le_refl _), Nat.sub_self]; rfl
    obtain ⟨C2, dx2, es, hC2, hH, hk, hvs⟩ := r.obs rho2.length (.ins nm2 fs) x0 (by rw [← R.rh.len, List.getElem?_append_right (Nat.le_refl _), Nat.sub_self]; rfl) last
    exact ⟨rfl, C2, dx2, es, hC2, hk, hvs, hH⟩
  split at e
  · rename_i d0 h' hd
    split at e
    · rename_i d hv
      cases e
      obtain ⟨nm2, fs, rfl, hr2, hcm⟩ := mkV_ok hv
      cases hr2
      refine ⟨by rw [List.length_cons, a2], F2, rho2 ++ [x0], z'.h ++ [.ins x []], .ref z'.h.length :: g xs, R3.1.rh, .cons (.ref R3.2) a1, _, _, hd, ?_⟩
      intro F' rho' H' e1 e2 r fr nf nr v q
      have hv : v = .non := by cases q; rfl
      refine ⟨hv, ?_⟩
      have R4 := R3.1.called e1 e2 r fr nf nr
      obtain ⟨er, C2, dx2, es, hC2, hk, hvs, hH⟩ := back e1 e2 r R4
      subst er
      obtain ⟨sf, R5⟩ := Rl.settle (s := z'.s) (h := z'.h) R R4 hH
      exact kk (upd F' x0 _) rho2 H' (.ref x0) ((s1.trans e1).trans sf) p1 R5 (.ins hC2 upd_same hk ((Rps.conv1 (fun d hd v r => r.blw R.rh.len.symm 12 (List.all_eq_true.mp hcm d hd)) hvs).mono sf (List.prefix_refl _)))
    · cases e
  · rename_i xx h' hd
    split at e
    · rename_i hc
      cases e
      obtain ⟨nm2, fs, rfl⟩ := hc
      refine ⟨by rw [List.length_cons, a2], F2, rho2 ++ [x0], z'.h ++ [.ins x []], .ref z'.h.length :: g xs, R3.1.rh, .cons (.ref R3.2) a1, _, _, hd, ?_⟩
      intro F' rho' H' e1 e2 r fr nf nr C3 dd q
      have R4 := R3.1.called e1 e2 r fr nf nr
      obtain ⟨er, C2, dx2, es, hC2, hk, hvs, hH⟩ := back e1 e2 r R4
      subst er
      obtain ⟨sf, R5⟩ := Rl.settle (s := z'.s) (h := z'.h) R R4 hH
      exact kk (upd F' x0 _) rho2 H' C3 dd ((s1.trans e1).trans sf) p1 R5 q
    · cases e
  · cases e
/-! ### a suite: if not isinstance(e, S) or not isinstance(e, T): ..; return ("..", e.f) -/
section
variable {X : Cx} {Tb : Tbs} {a dd : Addr} {oe : Obj} {pn : List (Addr × Obj)} {i : Nat} {x : Xn}
theorem tup2_go {K : Kx} {s t : Str} {D : L2.Ends} {σ : L2.St} {H : Hp} (h : Ts K (C.ret (E.tup [E.c (.str s), E.c (.str t)])) D σ H) : ∀ p, H p = none → D.rt (.ref p) (upd H p (.tup [.str s, .str t])) := by
  obtain ⟨B, F, rho, om, z, g⟩ := ret_go h
  obtain ⟨R, d, z1, e, k⟩ := g
  cases e
  intro p hp
  obtain ⟨F3, R3, s3, q3⟩ := R.alloc (o := .tup [.str s, .str t]) hp
  exact k F3 rho _ _ s3 (List.prefix_refl _) R3 (.pure (.tup q3 (.cons (.str s) (.cons (.str t) .nil))))
theorem su_notOr {c1 c2 b : Expr} {s : Str} {j} {p1 p2 p3 p4 p5 p6 p7 : Pos} {k : Nat} {w : List Stmt} {tw : L2.TS} (hc1 : PE (X.suite a ((a, oe) :: pn)) c1 (tK i a dd x (.bl true))) (hc2 : PE (X.suite a ((a, oe) :: pn)) c2 (tK i a dd x (.bl true))) (hb : PE (X.suite a ((a, oe) :: pn)) b (tK i a dd x (.str x.s))) (hw : PSs (X.suite a ((a, oe) :: pn)) w tw)
    (h1 : ∀ whole, isTrue c1 X.env whole = (do let v ← whole; standAt c1.pos; holding [v] (truthy v)) := by intro _; rfl) (h2 : ∀ whole, isTrue c2 X.env whole = (do let v ← whole; standAt c2.pos; holding [v] (truthy v)) := by intro _; rfl) (hs : starEach [b] X.env = (false, eval b X.env) :: starEach [] X.env := by rfl)
    (hs2 : starEach [.Constant (.str s) j p5, b] X.env = (false, eval (.Constant (.str s) j p5) X.env) :: starEach [b] X.env := by rfl) :
    PSs (X.suite a ((a, oe) :: pn)) [.If (.BoolOp .Or [.UnaryOp .Not c1 p1, .UnaryOp .Not c2 p2] p3) w [] p4, .Return (some (.Tuple [.Constant (.str s) j p5, b] k p6)) p7] (tSu (kx X Tb) i a dd x (C.ret (E.tup [E.c (.str s), E.c (.str x.s)]))) := by
  refine pss_imp (pss_cons (ps_if (PW.pt (pw_or (pt_not (pt_val hc1 h1)) (pw_or1 (pt_not (pt_val hc2 h2))))) hw pss_nil) (pss_one (ps_ret (pe_tup (pa_cons pe_str (pa_cons hb pa_nil hs) hs2))))) fun D σ H ⟨q1, q2, q3⟩ => ?_
  have q4 := tup2_go q3
  exact ⟨q1, q2, true, rfl, q1, q2, true, rfl, q1, q2, (by decide : 2 ≤ sizeLine), q4⟩
end
/-! ### list(d): the keys of a frozen dict -/
namespace N
def keysL (m : M D) : M (List D) := bnd m fun x z => match x with
  | .dk kvs => some (kvs.map fun e => dkey e.1, z)
  | _ => none
end N
section
variable {X : Cx} {Tb : Tbs} {z z1 : Z}
theorem mf_keysL {p pos : Pos} {e : Expr} {m : M D} (hc : X.calm = true) (hg : Gl X "list") (hm : X.mg "list" = none) (ha : PE X e (Te (kx X Tb) m)) (hv : bootBuiltins "list" = some (.type "list") := by decide +kernel)
    (he : starEach [e] X.env = (false, eval e X.env) :: starEach [] X.env := by rfl) (hpl : (backTo pos (starEach [] X.env)).any (·.1) = false := by rfl) : PE X (.Call (.Name "list" p) [e] [] pos) (Tf (kx X Tb) (N.keysL m)) := by
  refine pe_imp (pe_callTy (call_listD hc) hg hm hv (pa_cons ha pa_nil he) (by decide) (by decide) he hpl) fun σ H Q ⟨B, F, rho, om, z, g⟩ => ?_
  refine (g.bnd.imp fun _ _ H1 _ _ v _ _ _ _ _ ⟨F2, rho2, z2, x, eg1, s1, p1, r1, g1⟩ => ?_).tx (R := rV (kx X Tb))
  obtain ⟨R, d, z4, e, k⟩ := g1
  dsimp only at e
  split at e
  · rename_i kvs
    cases e
    cases r1 with
    | pure r1 =>
      cases r1 with
      | @dk a es _ o h1 h2 h3 =>
        refine ⟨a, es, rfl, .inr ⟨o, R.rh.fro _ _ h1⟩, fun l hl => ?_⟩
        obtain ⟨R4, f4⟩ := R.new (o := .lst (es.map fun kv => kV kv.1)) hl
        refine k F2 rho2 _ _ (Same.refl _) (List.prefix_refl _) R4 ⟨l, _, rfl, upd_same, f4, ?_⟩
        rw [rk_keys (K := kx X Tb) (F := F2) (rho := rho2) h2 dkey]
        have := rps_keys (K := kx X Tb) (F := F2) (rho := rho2) (es.map Prod.fst)
        rw [List.map_map, List.map_map] at this
        exact this
  · cases e
theorem ev_keysL {m : M D} {kvs : List (Key × D)} (h1 : m z = some (.dk kvs, z1)) : N.keysL m z = some (kvs.map fun e => dkey e.1, z1) := by
  unfold N.keysL
  rw [bnd_of h1]
end
/-! ### isinstance(x, T) of an own instance too -/
structure IsvC (K : PySem.W.Frag) (C : Addr) : Prop where
  ca : PySem.W.findIn K (.ref C) "__class__" = some (some (.builtin "object.__class__"))
  gn : PySem.W.specialIn K (.builtin "object.__class__") "__get__" = some (some (.builtin "getset_descriptor.__get__"))
  tk : PySem.W.takesIn K (.builtin "object.__class__") = some true
  mr : PySem.W.mroIn K C (.type "object") = some true
theorem isvB_ok {K : PySem.W.Frag} {C : Addr} (h : isiB K C = true) : IsvC K C := by
  unfold isiB at h
  simp only [Bool.and_eq_true] at h
  obtain ⟨_, h2, h3, h4, h5⟩ := h
  exact ⟨of_decide_eq_true h2, of_decide_eq_true h3, of_decide_eq_true h4, of_decide_eq_true h5⟩
namespace F
def isiI (nm : Str) (T : String) (b : Bool) (d : D) (z : Z) : Option D := match d with
  | .ins n _ => if n = nm then some (.bl b) else none
  | d => Mi.F.isi T d z
end F
section
variable {X : Cx} {Tb : Tbs}
theorem me_isiI {nm : Str} {C : Addr} {T : String} {b : Bool} {Tn : Str} {p p2 pos : Pos} {e : Expr} {m : M D} (tc : ∀ q ∈ Tb.c, q.1 = nm → q.2 = C) (cl : Cls X.K C) (iv : IsvC X.K C) (hk : PySem.W.kitOne X.K (.ref C) (.type T) = some b) (hg : Gl X "isinstance") (hm : X.mg "isinstance" = none) (hg2 : Gl X Tn) (hm2 : X.mg Tn = none) (hv2 : bootBuiltins Tn = some (.type T)) (ha : PE X e (Te (kx X Tb) m)) (hn : Tn ≠ "__name__" := by decide) (hdb : (Tn == ("__debug__" : Str)) = false := by decide)
    (hv : bootBuiltins "isinstance" = some (.builtin "isinstance") := by decide +kernel) (he : starEach [e, .Name Tn p2] X.env = (false, eval e X.env) :: starEach [.Name Tn p2] X.env := by rfl) (he2 : starEach [.Name Tn p2] X.env = (false, eval (.Name Tn p2) X.env) :: starEach [] X.env := by rfl)
    (hpl : (backTo pos (starEach [.Name Tn p2] X.env)).any (·.1) = false := by rfl) : PE X (.Call (.Name "isinstance" p) [e, .Name Tn p2] [] pos) (Te (kx X Tb) (E.un (Mi.F.isiI nm T b) m)) := by
  refine pe_imp (pe_callB call_isi hg hm hv (pa_cons ha (pa_cons (pe_bltn hg2 hm2 hv2 (v := .ty T) rfl hn hdb) pa_nil he2) he) (by decide) (by decide) he hpl) fun σ H Q h => ?_
  obtain ⟨B, F, rho, om, z, g⟩ := h
  refine (g.bnd.imp fun _ _ H1 _ _ v _ _ _ _ _ ⟨F2, rho2, z2, x, eg1, s1, p1, r1, g1⟩ => ?_).tx (R := rV (kx X Tb))
  obtain ⟨R, d, z4, e, k⟩ := g1
  dsimp only at e
  split at e
  · cases e
  · rename_i d' hd
    cases e
    unfold Mi.F.isiI at hd
    split at hd
    · rename_i n fs
      split at hd
      · rename_i hnm
        cases hd
        cases r1 with
        | pure r1 =>
          cases r1 with
          | @ins _ a C' dx es _ hC h1 h2 h3 =>
            have ec : C' = C := tc _ hC hnm
            subst ec
            show rIsi X.K [.ref a, .ty T] H1 Q
            exact ⟨.ref a, .ty T, .ref C', .type T, b, rfl, .ty T, .base (.ins (R.rh.fro _ _ h1) cl iv.ca iv.gn iv.tk iv.mr), hk, k F2 rho2 H1 _ (Same.refl _) (List.prefix_refl _) R (.pure (.bl b))⟩
      · cases hd
    · unfold Mi.F.isi at hd
      split at hd
      · rename_i t ht
        cases hk2 : L2.kitB t T with
        | none => rw [hk2] at hd; cases hd
        | some b2 =>
          rw [hk2] at hd
          cases hd
          show rIsi X.K [v, .ty T] H1 Q
          exact ⟨v, .ty T, .type t, .type T, b2, rfl, .ty T, tyName_ok R r1 ht, kit_ty hk2, k F2 rho2 H1 _ (Same.refl _) (List.prefix_refl _) R (.pure (.bl b2))⟩
      · cases hd
end
end Mi

set_option Elab.async false
set_option linter.all false
set_option maxRecDepth 100000
namespace W
open PySem L2 Mi
noncomputable section
def top (i : Nat) : Stmt := PySem.Challenge.pw_footpath_k01_settings.main.body.getD i (.Pass ⟨0, 0, 0, 0⟩)
abbrev s_SettingsError___init__ : Stmt := inClass (top 3) 0
theorem sc_SettingsError___init__ : FnScope ["self", "name"] ["self", "name"] (defScope s_SettingsError___init__) := ⟨rfl, rfl, rfl, by decide +kernel, rfl, by decide +kernel, by decide +kernel⟩
abbrev s_law_state : Stmt := top 11
theorem sc_law_state : FnScope ["_law_script", "_law_seed", "_law_cell"] ["_law_script"] (defScope s_law_state) := ⟨rfl, rfl, rfl, by decide +kernel, rfl, by decide +kernel, by decide +kernel⟩
abbrev s_law_draw : Stmt := top 12
theorem sc_law_draw : FnScope ["_law_state_here", "_law_many", "_law_cells", "_law_value", "_law_mixed"] ["_law_state_here", "_law_many"] (defScope s_law_draw) := ⟨rfl, rfl, rfl, by decide +kernel, rfl, by decide +kernel, by decide +kernel⟩
abbrev s_law_near : Stmt := top 13
theorem sc_law_near : FnScope ["_law_state_here", "_law_least", "_law_greatest", "_law_kind"] ["_law_state_here", "_law_least", "_law_greatest"] (defScope s_law_near) := ⟨rfl, rfl, rfl, by decide +kernel, rfl, by decide +kernel, by decide +kernel⟩
abbrev s_law_draws : Stmt := top 14
theorem sc_law_draws : FnScope ["_law_state_here", "_law_v"] ["_law_state_here"] (defScope s_law_draws) := ⟨rfl, rfl, rfl, by decide +kernel, rfl, by decide +kernel, by decide +kernel⟩
abbrev s_law_counted : Stmt := top 15
theorem sc_law_counted : FnScope ["_law_length", "_law_unit", "_law_many"] ["_law_length", "_law_unit"] (defScope s_law_counted) := ⟨rfl, rfl, rfl, by decide +kernel, rfl, by decide +kernel, by decide +kernel⟩
abbrev s_law_first_wrong : Stmt := top 16
theorem sc_law_first_wrong : FnScope ["_law_v", "_law_num", "_law_den"] ["_law_v"] (defScope s_law_first_wrong) := ⟨rfl, rfl, rfl, by decide +kernel, rfl, by decide +kernel, by decide +kernel⟩
abbrev s_require : Stmt := top 7
theorem sc_require : FnScope ["holds", "name"] ["holds", "name"] (defScope s_require) := ⟨rfl, rfl, rfl, by decide +kernel, rfl, by decide +kernel, by decide +kernel⟩
abbrev s_ceiled : Stmt := top 8
theorem sc_ceiled : FnScope ["number", "unit"] ["number", "unit"] (defScope s_ceiled) := ⟨rfl, rfl, rfl, by decide +kernel, rfl, by decide +kernel, by decide +kernel⟩
abbrev s_Settings___init__ : Stmt := inClass (top 9) 0
theorem sc_Settings___init__ : FnScope ["self", "columns", "rows", "cell", "level", "width", "height", "step", "slope", "slack", "tile"] ["self", "columns", "rows", "cell", "level", "width", "height", "step", "slope", "slack", "tile"] (defScope s_Settings___init__) := ⟨rfl, rfl, rfl, by decide +kernel, rfl, by decide +kernel, by decide +kernel⟩
abbrev s_law_made : Stmt := top 17
theorem sc_law_made : FnScope ["_law_v", "e"] ["_law_v"] (defScope s_law_made) := ⟨rfl, rfl, rfl, by decide +kernel, rfl, by decide +kernel, by decide +kernel⟩
abbrev s_law : Stmt := top 18
theorem sc_law : FnScope ["_law_script", "_law_state_here", "_law_v", "_law_due", "_law_made_here", "_law_number", "_law_unit", "_law_told", "_law_name", "_law_tall"] ["_law_script"] (defScope s_law) := ⟨rfl, rfl, rfl, by decide +kernel, rfl, by decide +kernel, by decide +kernel⟩
def lp_law_state1 : C := (C.set 1 (E.op O.mod (E.blt F.int1 [(E.op O.add (E.op O.mul (E.var 1) (E.c (.int 31))) (E.var 2))]) (E.c (.int 1000003))))
@[reducible] def st_law_state_3 : C := (C.ret (E.shr (N.disp [(E.shr (N.comp (I.seqC (E.var 0)) (G.nm 2) [2] (ret true) (E.blt F.abs [(E.var 2)]))), (E.op O.add (E.var 1) (E.c (.int 1)))])))
@[reducible] def st_law_state_2 : C := (C.for_ (I.seq (E.var 0)) (G.nm 2) lp_law_state1)
def b_law_state : C := (C.seq (C.set 1 (E.c (.int 7))) (C.seq st_law_state_2 st_law_state_3))
def m_law_state : Fn := fn 3 1 b_law_state
def lp_law_draw1 : C := (C.drop (E.chg U.popAt (E.var 2) [(E.c (.int 0))]))
@[reducible] def st_law_draw_6 : C := (C.ret (E.op O.mod (E.blt F.int1 [(E.op O.div (E.var 4) (E.c (.int 64)))]) (E.var 1)))
@[reducible] def st_law_draw_5 : C := (C.setIx (E.var 0) (E.c (.int 1)) (E.var 4))
@[reducible] def st_law_draw_4 : C := (C.set 4 (E.op O.mod (E.blt F.int1 [(E.op O.add (E.op O.mul (E.op O.ix (E.var 0) (E.c (.int 1))) (E.c (.int 48271))) (E.c (.int 12345)))]) (E.c (.int 2147483647))))
@[reducible] def st_law_draw_3 : C := (C.ite (T.val (E.op O.gt (E.blt F.len [(E.var 2)]) (E.c (.int 0)))) (C.seq (C.set 3 (E.op O.ix (E.var 2) (E.c (.int 0)))) (C.seq (C.setIx (E.var 2) (E.c (.int 0)) (E.op O.div (E.var 3) (E.var 1))) (C.ret (E.op O.mod (E.blt F.int1 [(E.var 3)]) (E.var 1))))) C.skip)
@[reducible] def st_law_draw_2 : C := (C.whl (T.and (T.val (E.op O.gt (E.blt F.len [(E.var 2)]) (E.c (.int 0)))) (T.val (E.op O.eq (E.op O.ix (E.var 2) (E.c (.int 0))) (E.c (.int 0))))) lp_law_draw1)
@[reducible] def st_law_draw_1 : C := (C.set 2 (E.op O.ix (E.var 0) (E.c (.int 0))))
def b_law_draw : C := (C.seq st_law_draw_1 (C.seq st_law_draw_2 (C.seq st_law_draw_3 (C.seq st_law_draw_4 (C.seq st_law_draw_5 st_law_draw_6)))))
def m_law_draw : Fn := fn 5 2 b_law_draw
@[reducible] def st_law_near_4 : C := (C.ret (E.op O.add (E.var 1) (E.call m_law_draw [(E.var 0), (E.op O.add (E.op O.sub (E.var 2) (E.var 1)) (E.c (.int 1)))])))
@[reducible] def st_law_near_3 : C := (C.ite (T.val (E.op O.eq (E.var 3) (E.c (.int 1)))) (C.ret (E.op O.ix (E.frz (N.disp [(E.var 1), (E.var 2)])) (E.call m_law_draw [(E.var 0), (E.c (.int 2))]))) C.skip)
@[reducible] def st_law_near_2 : C := (C.ite (T.val (E.op O.eq (E.var 3) (E.c (.int 0)))) (C.ret (E.op O.ix (E.frz (N.disp [(E.op O.sub (E.var 1) (E.c (.int 1))), (E.op O.add (E.var 2) (E.c (.int 1)))])) (E.call m_law_draw [(E.var 0), (E.c (.int 2))]))) C.skip)
@[reducible] def st_law_near_1 : C := (C.set 3 (E.call m_law_draw [(E.var 0), (E.c (.int 8))]))
def b_law_near : C := (C.seq st_law_near_1 (C.seq st_law_near_2 (C.seq st_law_near_3 st_law_near_4)))
def m_law_near : Fn := fn 4 3 b_law_near
@[reducible] def st_law_draws_9 : C := (C.dput (E.var 1) (E.c (.str "tile")) (E.call m_law_near [(E.var 0), (E.c (.int 2)), (E.c (.int 16))]))
@[reducible] def st_law_draws_8 : C := (C.dput (E.var 1) (E.c (.str "slack")) (E.call m_law_near [(E.var 0), (E.c (.int 0)), (E.c (.int 1000))]))
@[reducible] def st_law_draws_7 : C := (C.dput (E.var 1) (E.c (.str "slope")) (E.tup [(E.call m_law_near [(E.var 0), (E.c (.int 0)), (E.c (.int 10))]), (E.call m_law_near [(E.var 0), (E.c (.int 1)), (E.op O.ix (E.frz (N.disp [(E.c (.int 12)), (E.c (.int 1000))])) (E.call m_law_draw [(E.var 0), (E.c (.int 2))]))])]))
@[reducible] def st_law_draws_6 : C := (C.dput (E.var 1) (E.c (.str "step")) (E.call m_law_near [(E.var 0), (E.c (.int 0)), (E.blt F.max2 [(E.op O.dix (E.var 1) (E.c (.str "height"))), (E.c (.int 1))])]))
@[reducible] def st_law_draws_5 : C := (C.dput (E.var 1) (E.c (.str "height")) (E.call m_law_near [(E.var 0), (E.c (.int 1)), (E.op O.mul (E.blt F.max2 [(E.op O.dix (E.var 1) (E.c (.str "level"))), (E.c (.int 1))]) (E.op O.ix (E.frz (N.disp [(E.c (.int 20)), (E.c (.int 1000))])) (E.call m_law_draw [(E.var 0), (E.c (.int 2))])))]))
@[reducible] def st_law_draws_4 : C := (C.dput (E.var 1) (E.c (.str "width")) (E.call m_law_near [(E.var 0), (E.c (.int 0)), (E.op O.mul (E.c (.int 4)) (E.blt F.max2 [(E.op O.dix (E.var 1) (E.c (.str "cell"))), (E.c (.int 1))]))]))
@[reducible] def st_law_draws_3 : C := (C.dput (E.var 1) (E.c (.str "level")) (E.call m_law_near [(E.var 0), (E.c (.int 1)), (E.op O.ix (E.frz (N.disp [(E.c (.int 6)), (E.c (.int 1000))])) (E.call m_law_draw [(E.var 0), (E.c (.int 2))]))]))
@[reducible] def st_law_draws_2 : C := (C.dput (E.var 1) (E.c (.str "cell")) (E.call m_law_near [(E.var 0), (E.c (.int 3)), (E.op O.ix (E.frz (N.disp [(E.c (.int 12)), (E.c (.int 1000))])) (E.call m_law_draw [(E.var 0), (E.c (.int 2))]))]))
@[reducible] def st_law_draws_1 : C := (C.ownN 1 (N.dispK [((E.c (.str "columns")), (E.call m_law_near [(E.var 0), (E.c (.int 1)), (E.c (.int 64))])), ((E.c (.str "rows")), (E.call m_law_near [(E.var 0), (E.c (.int 1)), (E.c (.int 64))]))]))
def b_law_draws : C := (C.seq st_law_draws_1 (C.seq st_law_draws_2 (C.seq st_law_draws_3 (C.seq st_law_draws_4 (C.seq st_law_draws_5 (C.seq st_law_draws_6 (C.seq st_law_draws_7 (C.seq st_law_draws_8 (C.seq st_law_draws_9 (C.retD (E.var 1)))))))))))
def m_law_draws : Fn := fn 2 1 b_law_draws
@[reducible] def st_law_counted_2 : C := (C.ite (T.val (E.op O.lt (E.op O.mul (E.var 2) (E.var 1)) (E.var 0))) (C.set 2 (E.op O.add (E.var 2) (E.c (.int 1)))) C.skip)
@[reducible] def st_law_counted_1 : C := (C.set 2 (E.op O.div (E.var 0) (E.var 1)))
def b_law_counted : C := (C.seq st_law_counted_1 (C.seq st_law_counted_2 (C.ret (E.var 2))))
def m_law_counted : Fn := fn 3 2 b_law_counted
@[reducible] def st_law_first_wrong_11 : C := (C.ite (T.or (T.val (E.op O.lt (E.op O.dix (E.var 0) (E.c (.str "tile"))) (E.c (.int 2)))) (T.val (E.op O.gt (E.op O.dix (E.var 0) (E.c (.str "tile"))) (E.c (.int 16))))) (C.ret (E.c (.str "tile"))) C.skip)
@[reducible] def st_law_first_wrong_10 : C := (C.ite (T.or (T.val (E.op O.lt (E.op O.dix (E.var 0) (E.c (.str "slack"))) (E.c (.int 0)))) (T.val (E.op O.gt (E.op O.dix (E.var 0) (E.c (.str "slack"))) (E.c (.int 1000))))) (C.ret (E.c (.str "slack"))) C.skip)
@[reducible] def st_law_first_wrong_9 : C := (C.ite (T.or (T.val (E.op O.lt (E.var 1) (E.c (.int 0)))) (T.or (T.val (E.op O.gt (E.var 1) (E.var 2))) (T.or (T.val (E.op O.lt (E.var 2) (E.c (.int 1)))) (T.val (E.op O.gt (E.var 2) (E.c (.int 1000))))))) (C.ret (E.c (.str "slope"))) C.skip)
@[reducible] def st_law_first_wrong_8 : C := (C.asg (G.tp [(G.nm 1), (G.nm 2)]) (E.op O.dix (E.var 0) (E.c (.str "slope"))))
@[reducible] def st_law_first_wrong_7 : C := (C.ite (T.or (T.val (E.op O.lt (E.op O.dix (E.var 0) (E.c (.str "step"))) (E.c (.int 0)))) (T.val (E.op O.ge (E.op O.mul (E.c (.int 2)) (E.op O.div (E.op O.dix (E.var 0) (E.c (.str "step"))) (E.op O.dix (E.var 0) (E.c (.str "level"))))) (E.call m_law_counted [(E.op O.dix (E.var 0) (E.c (.str "height"))), (E.op O.dix (E.var 0) (E.c (.str "level")))])))) (C.ret (E.c (.str "step"))) C.skip)
@[reducible] def st_law_first_wrong_6 : C := (C.ite (T.or (T.val (E.op O.lt (E.op O.dix (E.var 0) (E.c (.str "height"))) (E.c (.int 1)))) (T.val (E.op O.gt (E.op O.dix (E.var 0) (E.c (.str "height"))) (E.op O.mul (E.c (.int 1000)) (E.op O.dix (E.var 0) (E.c (.str "level"))))))) (C.ret (E.c (.str "height"))) C.skip)
@[reducible] def st_law_first_wrong_5 : C := (C.ite (T.or (T.val (E.op O.lt (E.op O.dix (E.var 0) (E.c (.str "width"))) (E.c (.int 0)))) (T.val (E.op O.gt (E.op O.dix (E.var 0) (E.c (.str "width"))) (E.op O.mul (E.c (.int 4)) (E.op O.dix (E.var 0) (E.c (.str "cell"))))))) (C.ret (E.c (.str "width"))) C.skip)
@[reducible] def st_law_first_wrong_4 : C := (C.ite (T.or (T.val (E.op O.lt (E.op O.dix (E.var 0) (E.c (.str "level"))) (E.c (.int 1)))) (T.val (E.op O.gt (E.op O.dix (E.var 0) (E.c (.str "level"))) (E.c (.int 1000))))) (C.ret (E.c (.str "level"))) C.skip)
@[reducible] def st_law_first_wrong_3 : C := (C.ite (T.or (T.val (E.op O.lt (E.op O.dix (E.var 0) (E.c (.str "cell"))) (E.c (.int 3)))) (T.val (E.op O.gt (E.op O.dix (E.var 0) (E.c (.str "cell"))) (E.c (.int 1000))))) (C.ret (E.c (.str "cell"))) C.skip)
@[reducible] def st_law_first_wrong_2 : C := (C.ite (T.or (T.val (E.op O.lt (E.op O.dix (E.var 0) (E.c (.str "rows"))) (E.c (.int 1)))) (T.val (E.op O.gt (E.op O.dix (E.var 0) (E.c (.str "rows"))) (E.c (.int 64))))) (C.ret (E.c (.str "rows"))) C.skip)
@[reducible] def st_law_first_wrong_1 : C := (C.ite (T.or (T.val (E.op O.lt (E.op O.dix (E.var 0) (E.c (.str "columns"))) (E.c (.int 1)))) (T.val (E.op O.gt (E.op O.dix (E.var 0) (E.c (.str "columns"))) (E.c (.int 64))))) (C.ret (E.c (.str "columns"))) C.skip)
def b_law_first_wrong : C := (C.seq st_law_first_wrong_1 (C.seq st_law_first_wrong_2 (C.seq st_law_first_wrong_3 (C.seq st_law_first_wrong_4 (C.seq st_law_first_wrong_5 (C.seq st_law_first_wrong_6 (C.seq st_law_first_wrong_7 (C.seq st_law_first_wrong_8 (C.seq st_law_first_wrong_9 (C.seq st_law_first_wrong_10 (C.seq st_law_first_wrong_11 (C.ret (E.c (.str ""))))))))))))))
def m_law_first_wrong : Fn := fn 3 1 b_law_first_wrong
@[reducible] def st_require_1 : C := (C.ite (T.not (T.tru (E.var 0))) C.never C.skip)
def b_require : C := st_require_1
def bx_require : CE := (CE.ite (T.not (T.tru (E.var 0))) (CE.raise "SettingsError" "name" (E.var 1)) (CE.lift C.skip))
def mx_require : FnE := fnE 2 2 bx_require
def m_require : Fn := fn 2 2 b_require
@[reducible] def st_ceiled_1 : C := (C.ret (E.un O.neg (E.op O.div (E.un O.neg (E.var 0)) (E.var 1))))
def b_ceiled : C := st_ceiled_1
def m_ceiled : Fn := fn 2 2 b_ceiled
@[reducible] def st_Settings___init___23 : C := (C.fsetC "Settings" "reach" (E.var 0) (E.call m_ceiled [(E.var 5), (E.var 3)]))
@[reducible] def st_Settings___init___22 : C := (C.fsetC "Settings" "tile" (E.var 0) (E.var 10))
@[reducible] def st_Settings___init___21 : C := (C.fsetC "Settings" "slack" (E.var 0) (E.var 9))
@[reducible] def st_Settings___init___20 : C := (C.fsetC "Settings" "slope" (E.var 0) (E.blt F.tuple [(E.var 8)]))
@[reducible] def st_Settings___init___19 : C := (C.fsetC "Settings" "step" (E.var 0) (E.var 7))
@[reducible] def st_Settings___init___18 : C := (C.fsetC "Settings" "height" (E.var 0) (E.var 6))
@[reducible] def st_Settings___init___17 : C := (C.fsetC "Settings" "width" (E.var 0) (E.var 5))
@[reducible] def st_Settings___init___16 : C := (C.fsetC "Settings" "level" (E.var 0) (E.var 4))
@[reducible] def st_Settings___init___15 : C := (C.fsetC "Settings" "cell" (E.var 0) (E.var 3))
@[reducible] def st_Settings___init___14 : C := (C.fsetC "Settings" "rows" (E.var 0) (E.var 2))
@[reducible] def st_Settings___init___13 : C := (C.fsetC "Settings" "columns" (E.var 0) (E.var 1))
@[reducible] def st_Settings___init___12 : C := (C.drop (E.call m_require [(E.chain O.le O.le (E.c (.int 2)) (E.var 10) (E.c (.int 16))), (E.c (.str "tile"))]))
@[reducible] def st_Settings___init___11 : C := (C.drop (E.call m_require [(E.chain O.le O.le (E.c (.int 0)) (E.var 9) (E.c (.int 1000))), (E.c (.str "slack"))]))
@[reducible] def st_Settings___init___10 : C := (C.drop (E.call m_require [(E.and (E.chain3 O.le O.le O.le (E.c (.int 0)) (E.op O.ix (E.var 8) (E.c (.int 0))) (E.op O.ix (E.var 8) (E.c (.int 1))) (E.c (.int 1000))) (E.op O.gt (E.op O.ix (E.var 8) (E.c (.int 1))) (E.c (.int 0)))), (E.c (.str "slope"))]))
@[reducible] def st_Settings___init___9 : C := (C.drop (E.call m_require [(E.and (E.op O.ge (E.var 7) (E.c (.int 0))) (E.op O.lt (E.op O.mul (E.c (.int 2)) (E.fldC "Settings" "rise" (E.var 0))) (E.fldC "Settings" "tall" (E.var 0)))), (E.c (.str "step"))]))
@[reducible] def st_Settings___init___8 : C := (C.fsetC "Settings" "rise" (E.var 0) (E.op O.div (E.var 7) (E.var 4)))
@[reducible] def st_Settings___init___7 : C := (C.fsetC "Settings" "tall" (E.var 0) (E.call m_ceiled [(E.var 6), (E.var 4)]))
@[reducible] def st_Settings___init___6 : C := (C.drop (E.call m_require [(E.chain O.le O.le (E.c (.int 1)) (E.var 6) (E.op O.mul (E.c (.int 1000)) (E.var 4))), (E.c (.str "height"))]))
@[reducible] def st_Settings___init___5 : C := (C.drop (E.call m_require [(E.chain O.le O.le (E.c (.int 0)) (E.var 5) (E.op O.mul (E.c (.int 4)) (E.var 3))), (E.c (.str "width"))]))
@[reducible] def st_Settings___init___4 : C := (C.drop (E.call m_require [(E.chain O.le O.le (E.c (.int 1)) (E.var 4) (E.c (.int 1000))), (E.c (.str "level"))]))
@[reducible] def st_Settings___init___3 : C := (C.drop (E.call m_require [(E.chain O.le O.le (E.c (.int 3)) (E.var 3) (E.c (.int 1000))), (E.c (.str "cell"))]))
@[reducible] def st_Settings___init___2 : C := (C.drop (E.call m_require [(E.chain O.le O.le (E.c (.int 1)) (E.var 2) (E.c (.int 64))), (E.c (.str "rows"))]))
@[reducible] def st_Settings___init___1 : C := (C.drop (E.call m_require [(E.chain O.le O.le (E.c (.int 1)) (E.var 1) (E.c (.int 64))), (E.c (.str "columns"))]))
def b_Settings___init__ : C := (C.seq st_Settings___init___1 (C.seq st_Settings___init___2 (C.seq st_Settings___init___3 (C.seq st_Settings___init___4 (C.seq st_Settings___init___5 (C.seq st_Settings___init___6 (C.seq st_Settings___init___7 (C.seq st_Settings___init___8 (C.seq st_Settings___init___9 (C.seq st_Settings___init___10 (C.seq st_Settings___init___11 (C.seq st_Settings___init___12 (C.seq st_Settings___init___13 (C.seq st_Settings___init___14 (C.seq st_Settings___init___15 (C.seq st_Settings___init___16 (C.seq st_Settings___init___17 (C.seq st_Settings___init___18 (C.seq st_Settings___init___19 (C.seq st_Settings___init___20 (C.seq st_Settings___init___21 (C.seq st_Settings___init___22 st_Settings___init___23))))))))))))))))))))))
def bx_Settings___init__ : CE := (CE.seq (CE.drop (EE.call mx_require [(E.chain O.le O.le (E.c (.int 1)) (E.var 1) (E.c (.int 64))), (E.c (.str "columns"))])) (CE.seq (CE.drop (EE.call mx_require [(E.chain O.le O.le (E.c (.int 1)) (E.var 2) (E.c (.int 64))), (E.c (.str "rows"))])) (CE.seq (CE.drop (EE.call mx_require [(E.chain O.le O.le (E.c (.int 3)) (E.var 3) (E.c (.int 1000))), (E.c (.str "cell"))])) (CE.seq (CE.drop (EE.call mx_require [(E.chain O.le O.le (E.c (.int 1)) (E.var 4) (E.c (.int 1000))), (E.c (.str "level"))])) (CE.seq (CE.drop (EE.call mx_require [(E.chain O.le O.le (E.c (.int 0)) (E.var 5) (E.op O.mul (E.c (.int 4)) (E.var 3))), (E.c (.str "width"))])) (CE.seq (CE.drop (EE.call mx_require [(E.chain O.le O.le (E.c (.int 1)) (E.var 6) (E.op O.mul (E.c (.int 1000)) (E.var 4))), (E.c (.str "height"))])) (CE.seq (CE.lift (C.fsetC "Settings" "tall" (E.var 0) (E.call m_ceiled [(E.var 6), (E.var 4)]))) (CE.seq (CE.lift (C.fsetC "Settings" "rise" (E.var 0) (E.op O.div (E.var 7) (E.var 4)))) (CE.seq (CE.drop (EE.call mx_require [(E.and (E.op O.ge (E.var 7) (E.c (.int 0))) (E.op O.lt (E.op O.mul (E.c (.int 2)) (E.fldC "Settings" "rise" (E.var 0))) (E.fldC "Settings" "tall" (E.var 0)))), (E.c (.str "step"))])) (CE.seq (CE.drop (EE.call mx_require [(E.and (E.chain3 O.le O.le O.le (E.c (.int 0)) (E.op O.ix (E.var 8) (E.c (.int 0))) (E.op O.ix (E.var 8) (E.c (.int 1))) (E.c (.int 1000))) (E.op O.gt (E.op O.ix (E.var 8) (E.c (.int 1))) (E.c (.int 0)))), (E.c (.str "slope"))])) (CE.seq (CE.drop (EE.call mx_require [(E.chain O.le O.le (E.c (.int 0)) (E.var 9) (E.c (.int 1000))), (E.c (.str "slack"))])) (CE.seq (CE.drop (EE.call mx_require [(E.chain O.le O.le (E.c (.int 2)) (E.var 10) (E.c (.int 16))), (E.c (.str "tile"))])) (CE.seq (CE.lift (C.fsetC "Settings" "columns" (E.var 0) (E.var 1))) (CE.seq (CE.lift (C.fsetC "Settings" "rows" (E.var 0) (E.var 2))) (CE.seq (CE.lift (C.fsetC "Settings" "cell" (E.var 0) (E.var 3))) (CE.seq (CE.lift (C.fsetC "Settings" "level" (E.var 0) (E.var 4))) (CE.seq (CE.lift (C.fsetC "Settings" "width" (E.var 0) (E.var 5))) (CE.seq (CE.lift (C.fsetC "Settings" "height" (E.var 0) (E.var 6))) (CE.seq (CE.lift (C.fsetC "Settings" "step" (E.var 0) (E.var 7))) (CE.seq (CE.lift (C.fsetC "Settings" "slope" (E.var 0) (E.blt F.tuple [(E.var 8)]))) (CE.seq (CE.lift (C.fsetC "Settings" "slack" (E.var 0) (E.var 9))) (CE.seq (CE.lift (C.fsetC "Settings" "tile" (E.var 0) (E.var 10))) (CE.lift (C.fsetC "Settings" "reach" (E.var 0) (E.call m_ceiled [(E.var 5), (E.var 3)])))))))))))))))))))))))))
def mx_Settings___init__ : FnE := fnE 11 11 bx_Settings___init__
def m_Settings___init__ : Fn := fn 11 11 b_Settings___init__
def ct_law_made1 : Xn → Option C := fun x => if x.nm = "SettingsError" ∧ x.fd = "name" then some (C.ret (E.tup [E.c (.str "error"), E.c (.str x.s)])) else none
@[reducible] def st_law_made_1 : C := (C.tryAs 1 (CE.ret (EE.mk "Settings" mx_Settings___init__ (fun xs => xs) [(E.op O.dix (E.var 0) (E.c (.str "columns"))), (E.op O.dix (E.var 0) (E.c (.str "rows"))), (E.op O.dix (E.var 0) (E.c (.str "cell"))), (E.op O.dix (E.var 0) (E.c (.str "level"))), (E.op O.dix (E.var 0) (E.c (.str "width"))), (E.op O.dix (E.var 0) (E.c (.str "height"))), (E.op O.dix (E.var 0) (E.c (.str "step"))), (E.op O.dix (E.var 0) (E.c (.str "slope"))), (E.op O.dix (E.var 0) (E.c (.str "slack"))), (E.op O.dix (E.var 0) (E.c (.str "tile")))])) ct_law_made1)
def b_law_made : C := st_law_made_1
def m_law_made : Fn := fn 2 1 b_law_made
@[reducible] def st_law_13 : C := (C.ret (E.op O.eq (E.frz (N.disp [(E.fldC "Settings" "tall" (E.var 4)), (E.fldC "Settings" "rise" (E.var 4)), (E.fldC "Settings" "reach" (E.var 4))])) (E.frz (N.disp [(E.var 9), (E.op O.div (E.op O.dix (E.var 2) (E.c (.str "step"))) (E.op O.dix (E.var 2) (E.c (.str "level")))), (E.call m_law_counted [(E.op O.dix (E.var 2) (E.c (.str "width"))), (E.op O.dix (E.var 2) (E.c (.str "cell")))])]))))
@[reducible] def st_law_12 : C := (C.set 9 (E.call m_law_counted [(E.op O.dix (E.var 2) (E.c (.str "height"))), (E.op O.dix (E.var 2) (E.c (.str "level")))]))
@[reducible] def st_law_11 : C := (C.ite (T.val (E.op O.ne (E.frz (N.cat (E.var 7) (E.frz (N.disp [(E.fldC "Settings" "tile" (E.var 4))])))) (E.frz (N.comp (I.seqC (E.frz (N.keysL (E.var 2)))) (G.nm 8) [8] (ret true) (E.op O.dix (E.var 2) (E.var 8)))))) (C.ret (E.c (.bl false))) C.skip)
@[reducible] def st_law_10 : C := (C.set 7 (E.frz (N.disp [(E.fldC "Settings" "columns" (E.var 4)), (E.fldC "Settings" "rows" (E.var 4)), (E.fldC "Settings" "cell" (E.var 4)), (E.fldC "Settings" "level" (E.var 4)), (E.fldC "Settings" "width" (E.var 4)), (E.fldC "Settings" "height" (E.var 4)), (E.fldC "Settings" "step" (E.var 4)), (E.fldC "Settings" "slope" (E.var 4)), (E.fldC "Settings" "slack" (E.var 4))])))
@[reducible] def st_law_9 : C := (C.ite (T.tru (E.un (F.isiI "Settings" "tuple" false) (E.var 4))) (C.ret (E.c (.bl false))) C.skip)
@[reducible] def st_law_8 : C := (C.ite (T.val (E.op O.ne (E.var 3) (E.c (.str "")))) (C.ret (E.op O.eq (E.var 4) (E.tup [(E.c (.str "error")), (E.var 3)]))) C.skip)
@[reducible] def st_law_7 : C := (C.ite (T.val (E.op O.ne (E.call m_ceiled [(E.var 5), (E.var 6)]) (E.call m_law_counted [(E.var 5), (E.var 6)]))) (C.ret (E.c (.bl false))) C.skip)
@[reducible] def st_law_6 : C := (C.set 6 (E.op O.add (E.c (.int 1)) (E.call m_law_draw [(E.var 1), (E.c (.int 30))])))
@[reducible] def st_law_5 : C := (C.set 5 (E.op O.sub (E.call m_law_draw [(E.var 1), (E.c (.int 1000))]) (E.c (.int 500))))
@[reducible] def st_law_4 : C := (C.set 4 (E.call m_law_made [(E.var 2)]))
@[reducible] def st_law_3 : C := (C.set 3 (E.call m_law_first_wrong [(E.var 2)]))
@[reducible] def st_law_2 : C := (C.set 2 (E.call m_law_draws [(E.var 1)]))
@[reducible] def st_law_1 : C := (C.set 1 (E.call m_law_state [(E.var 0)]))
def b_law : C := (C.seq st_law_1 (C.seq st_law_2 (C.seq st_law_3 (C.seq st_law_4 (C.seq st_law_5 (C.seq st_law_6 (C.seq st_law_7 (C.seq st_law_8 (C.seq st_law_9 (C.seq st_law_10 (C.seq st_law_11 (C.seq st_law_12 st_law_13))))))))))))
def m_law : Fn := fn 10 1 b_law
end
end W

set_option Elab.async false
set_option linter.all false
set_option maxRecDepth 100000
set_option maxHeartbeats 0
namespace W
open PySem L2 Mi PySem.W
def D_law_state : He.DefD := ⟨("_law_state", none), "_law_state", "_law_state", defArgs s_law_state, defBody s_law_state, defScope s_law_state, [], []⟩
def D_law_draw : He.DefD := ⟨("_law_draw", none), "_law_draw", "_law_draw", defArgs s_law_draw, defBody s_law_draw, defScope s_law_draw, [], []⟩
def D_law_near : He.DefD := ⟨("_law_near", none), "_law_near", "_law_near", defArgs s_law_near, defBody s_law_near, defScope s_law_near, [], []⟩
def D_law_draws : He.DefD := ⟨("_law_draws", none), "_law_draws", "_law_draws", defArgs s_law_draws, defBody s_law_draws, defScope s_law_draws, [], []⟩
def D_law_counted : He.DefD := ⟨("_law_counted", none), "_law_counted", "_law_counted", defArgs s_law_counted, defBody s_law_counted, defScope s_law_counted, [], []⟩
def D_law_first_wrong : He.DefD := ⟨("_law_first_wrong", none), "_law_first_wrong", "_law_first_wrong", defArgs s_law_first_wrong, defBody s_law_first_wrong, defScope s_law_first_wrong, [], []⟩
def D_require : He.DefD := ⟨("require", none), "require", "require", defArgs s_require, defBody s_require, defScope s_require, [], []⟩
def D_ceiled : He.DefD := ⟨("ceiled", none), "ceiled", "ceiled", defArgs s_ceiled, defBody s_ceiled, defScope s_ceiled, [], []⟩
def D_Settings___init__ : He.DefD := ⟨("Settings", some "__init__"), "__init__", "Settings.__init__", defArgs s_Settings___init__, defBody s_Settings___init__, defScope s_Settings___init__, [], [("slack", .int 0), ("tile", .int 8)]⟩
def D_law_made : He.DefD := ⟨("_law_made", none), "_law_made", "_law_made", defArgs s_law_made, defBody s_law_made, defScope s_law_made, [], []⟩
def D_law : He.DefD := ⟨("law", none), "law", "law", defArgs s_law, defBody s_law, defScope s_law, [], []⟩
def D_SettingsError___init__ : He.DefD := ⟨("SettingsError", some "__init__"), "__init__", "SettingsError.__init__", defArgs s_SettingsError___init__, defBody s_SettingsError___init__, defScope s_SettingsError___init__, [], []⟩
def fn_ : List He.DefD := [D_law_state, D_law_draw, D_law_near, D_law_draws, D_law_counted, D_law_first_wrong, D_require, D_ceiled, D_Settings___init__, D_law_made, D_law, D_SettingsError___init__]
def fa_ : List He.Fa := [.glo "_law_state", .glo "_law_draw", .glo "_law_near", .glo "_law_draws", .glo "_law_counted", .glo "_law_first_wrong", .glo "require", .glo "ceiled", .glo "_law_made", .glo "law", .free "ValueError", .free "abs", .free "int", .free "isinstance", .free "len", .free "list", .free "max", .free "tuple", .int "MOST_CELLS" 64, .int "MOST_LENGTH" 1000, .glo "Settings", .cls "Settings", .noat "Settings" "cell", .noat "Settings" "columns", .noat "Settings" "height", .noat "Settings" "level", .noat "Settings" "reach", .noat "Settings" "rise", .noat "Settings" "rows", .noat "Settings" "slack", .noat "Settings" "slope", .noat "Settings" "step", .noat "Settings" "tall", .noat "Settings" "tile", .noat "Settings" "width", .mkr "Settings", .glo "SettingsError", .glo "FootpathError"]
def tf_ : List (He.Defn × Str) := []
def ex_ (K : PySem.W.Frag) : Bool := ((csD K tf_).all fun z => (csD K tf_).all fun y => !decide (z.p = y.p) || decide (z.q = y.q)) && exB K (He.ga K "SettingsError") (He.fAd K ("SettingsError", some "__init__")) "name" && bseB K (He.ga K "FootpathError") && kitB K (He.ga K "SettingsError") (.ref (He.ga K "FootpathError")) true && kitB K (He.ga K "SettingsError") (.type "ValueError") true && isiB K (He.ga K "Settings") && kitB K (He.ga K "Settings") (.type "tuple") false && exmB K (He.ga K "SettingsError") (He.ga K "SettingsError")
abbrev R_ : PySem.W.OpenRow := PySem.W.OpenLaw.row PySem.Challenge.rw_footpath_k01_settings
abbrev hk_ : PySem.W.Hook := Mi.hookS 6 fa_ fn_ [] (tf_.map Prod.fst) ex_
def ob_ (s : PySem.W.SharedT) : He.AlX := Mi.obsS 6 fa_ fn_ [] (tf_.map Prod.fst) ex_ (HandSHeadRun.getT s)
theorem ob_eq (s : PySem.W.SharedT) : ob_ s = hk_.obs s.abs := Mi.obsS_eq (HandSHeadRun.getT_eq s)
def loose_ : List Str := [("_wall" : Str), ("FootpathError" : Str), ("SettingsError" : Str), ("MOST_CELLS" : Str), ("MOST_LENGTH" : Str), ("require" : Str), ("ceiled" : Str), ("Settings" : Str), ("_law_state" : Str), ("_law_draw" : Str), ("_law_near" : Str), ("_law_draws" : Str), ("_law_counted" : Str), ("_law_first_wrong" : Str), ("_law_made" : Str)]
set_option maxHeartbeats 0 in
theorem run_ (w : World) : HandSHeadRun.RunEq R_ (PySem.W.view R_.prog [18]) hk_ ob_ 4000 loose_ w := by
  intro os
  kernel_rfl
end W

set_option Elab.async false
set_option linter.all false
set_option maxRecDepth 100000
set_option maxHeartbeats 1000000
set_option synthInstance.maxSize 2000
namespace W
open PySem L2 Mi
structure PSettings where
  tall : Int
  rise : Int
  columns : Int
  rows : Int
  cell : Int
  level : Int
  width : Int
  height : Int
  step : Int
  slope : (Int × Int)
  slack : Int
  tile : Int
  reach : Int
@[reducible] def eSettings (s : PSettings) : D := .ins "Settings" [("tall", eI s.tall), ("rise", eI s.rise), ("columns", eI s.columns), ("rows", eI s.rows), ("cell", eI s.cell), ("level", eI s.level), ("width", eI s.width), ("height", eI s.height), ("step", eI s.step), ("slope", (e2 eI eI) s.slope), ("slack", eI s.slack), ("tile", eI s.tile), ("reach", eI s.reach)]
theorem fl_Settings_tall (s : PSettings) (z : Z) : O.fldC "Settings" "tall" (eSettings s) z = some (eI s.tall) := fld_at (ks := ["tall", "rise", "columns", "rows", "cell", "level", "width", "height", "step", "slope", "slack", "tile", "reach"]) (i := 0) z rfl rfl (by decide +kernel)
theorem fl_Settings_rise (s : PSettings) (z : Z) : O.fldC "Settings" "rise" (eSettings s) z = some (eI s.rise) := fld_at (ks := ["tall", "rise", "columns", "rows", "cell", "level", "width", "height", "step", "slope", "slack", "tile", "reach"]) (i := 1) z rfl rfl (by decide +kernel)
theorem fl_Settings_columns (s : PSettings) (z : Z) : O.fldC "Settings" "columns" (eSettings s) z = some (eI s.columns) := fld_at (ks := ["tall", "rise", "columns", "rows", "cell", "level", "width", "height", "step", "slope", "slack", "tile", "reach"]) (i := 2) z rfl rfl (by decide +kernel)
theorem fl_Settings_rows (s : PSettings) (z : Z) : O.fldC "Settings" "rows" (eSettings s) z = some (eI s.rows) := fld_at (ks := ["tall", "rise", "columns", "rows", "cell", "level", "width", "height", "step", "slope", "slack", "tile", "reach"]) (i := 3) z rfl rfl (by decide +kernel)
theorem fl_Settings_cell (s : PSettings) (z : Z) : O.fldC "Settings" "cell" (eSettings s) z = some (eI s.cell) := fld_at (ks := ["tall", "rise", "columns", "rows", "cell", "level", "width", "height", "step", "slope", "slack", "tile", "reach"]) (i := 4) z rfl rfl (by decide +kernel)
theorem fl_Settings_level (s : PSettings) (z : Z) : O.fldC "Settings" "level" (eSettings s) z = some (eI s.level) := fld_at (ks := ["tall", "rise", "columns", "rows", "cell", "level", "width", "height", "step", "slope", "slack", "tile", "reach"]) (i := 5) z rfl rfl (by decide +kernel)
theorem fl_Settings_width (s : PSettings) (z : Z) : O.fldC "Settings" "width" (eSettings s) z = some (eI s.width) := fld_at (ks := ["tall", "rise", "columns", "rows", "cell", "level", "width", "height", "step", "slope", "slack", "tile", "reach"]) (i := 6) z rfl rfl (by decide +kernel)
theorem fl_Settings_height (s : PSettings) (z : Z) : O.fldC "Settings" "height" (eSettings s) z = some (eI s.height) := fld_at (ks := ["tall", "rise", "columns", "rows", "cell", "level", "width", "height", "step", "slope", "slack", "tile", "reach"]) (i := 7) z rfl rfl (by decide +kernel)
theorem fl_Settings_step (s : PSettings) (z : Z) : O.fldC "Settings" "step" (eSettings s) z = some (eI s.step) := fld_at (ks := ["tall", "rise", "columns", "rows", "cell", "level", "width", "height", "step", "slope", "slack", "tile", "reach"]) (i := 8) z rfl rfl (by decide +kernel)
theorem fl_Settings_slope (s : PSettings) (z : Z) : O.fldC "Settings" "slope" (eSettings s) z = some ((e2 eI eI) s.slope) := fld_at (ks := ["tall", "rise", "columns", "rows", "cell", "level", "width", "height", "step", "slope", "slack", "tile", "reach"]) (i := 9) z rfl rfl (by decide +kernel)
theorem fl_Settings_slack (s : PSettings) (z : Z) : O.fldC "Settings" "slack" (eSettings s) z = some (eI s.slack) := fld_at (ks := ["tall", "rise", "columns", "rows", "cell", "level", "width", "height", "step", "slope", "slack", "tile", "reach"]) (i := 10) z rfl rfl (by decide +kernel)
theorem fl_Settings_tile (s : PSettings) (z : Z) : O.fldC "Settings" "tile" (eSettings s) z = some (eI s.tile) := fld_at (ks := ["tall", "rise", "columns", "rows", "cell", "level", "width", "height", "step", "slope", "slack", "tile", "reach"]) (i := 11) z rfl rfl (by decide +kernel)
theorem fl_Settings_reach (s : PSettings) (z : Z) : O.fldC "Settings" "reach" (eSettings s) z = some (eI s.reach) := fld_at (ks := ["tall", "rise", "columns", "rows", "cell", "level", "width", "height", "step", "slope", "slack", "tile", "reach"]) (i := 12) z rfl rfl (by decide +kernel)
theorem q_law_draw {s : DS} {many : Int} (tl : List D) {r : Int × DS} (hr : Pl.draw s many = some r) : m_law_draw [.ref 1, .int many] (stT s tl) = some (.int r.1, stT r.2 tl) := Dr.q_draw tl hr
def p_law_near (v_least : Int) (v_greatest : Int) (s : DS) : Option (Int × DS) :=
  (Pl.draw s (8 : Int)).bind fun t1 =>
  (if (decide (t1.1 = (0 : Int))) = true then
  (Pl.draw t1.2 (2 : Int)).bind fun t2 =>
  (Pl.at_ [(v_least - (1 : Int)), (v_greatest + (1 : Int))] t2.1).bind fun t3 =>
  some (t3, t2.2)
  else
  (if (decide (t1.1 = (1 : Int))) = true then
  (Pl.draw t1.2 (2 : Int)).bind fun t4 =>
  (Pl.at_ [v_least, v_greatest] t4.1).bind fun t5 =>
  some (t5, t4.2)
  else
  (Pl.draw t1.2 ((v_greatest - v_least) + (1 : Int))).bind fun t6 =>
  some ((v_least + t6.1), t6.2)))
theorem q_law_near {v_least : Int} {v_greatest : Int} {s : DS} (tl : List D) {r : (Int × DS)} (hr : p_law_near v_least v_greatest s = some r) : m_law_near [.ref 1, eI v_least, eI v_greatest] (stT s tl) = some (eI r.1, stT r.2 tl) := by
  refine Rf.fn (o := p_law_near v_least v_greatest s) (e := (fun r : (Int × DS) => eI r.1)) (hp := (fun r : (Int × DS) => stT r.2 tl)) (s := [.val (.ref 1), .val (eI v_least), .val (eI v_greatest), .no]) rfl rfl ?_ hr
  unfold p_law_near b_law_near
  refine Rf.bd fun t1 h_t1 => ?_
  refine Rf.set0 (d := eI t1.1) (ev_call (ev_args (ev_var rfl) (ev_args ev_c ev_args0 rfl) rfl) (q_law_draw tl h_t1)) rfl (sl_s (sl_s (sl_s sl_z))) ?_
  refine Rf.ite (tv (ev_eqI (ev_var rfl) ev_c)) ?_ ?_
  · refine Rf.bd fun t2 h_t2 => ?_
    refine Rf.bd fun t3 h_t3 => ?_
    exact Rf.ret (ev_ixP (e := eI) (ev_frz (ev_disp (ev_args (ev_sub (ev_var rfl) ev_c) (ev_args (ev_add (ev_var rfl) ev_c) ev_args0 rfl) rfl))) (ev_call (ev_args (ev_var rfl) (ev_args ev_c ev_args0 rfl) rfl) (q_law_draw tl h_t2)) rfl h_t3) rfl ⟨.inl rfl, rfl⟩
  · refine Rf.skip ?_
    refine Rf.ite (tv (ev_eqI (ev_var rfl) ev_c)) ?_ ?_
    · refine Rf.bd fun t4 h_t4 => ?_
      refine Rf.bd fun t5 h_t5 => ?_
      exact Rf.ret (ev_ixP (e := eI) (ev_frz (ev_disp (ev_args (ev_var rfl) (ev_args (ev_var rfl) ev_args0 rfl) rfl))) (ev_call (ev_args (ev_var rfl) (ev_args ev_c ev_args0 rfl) rfl) (q_law_draw tl h_t4)) rfl h_t5) rfl ⟨.inl rfl, rfl⟩
    · refine Rf.skip ?_
      refine Rf.last ?_
      refine Rf.bd fun t6 h_t6 => ?_
      exact Rf.ret (ev_add (ev_var rfl) (ev_call (ev_args (ev_var rfl) (ev_args (ev_add (ev_sub (ev_var rfl) (ev_var rfl)) ev_c) ev_args0 rfl) rfl) (q_law_draw tl h_t6))) rfl ⟨.inl rfl, rfl⟩

def p_law_counted (v_length : Int) (v_unit : Int) : Option Int :=
  (Pl.div v_length v_unit).bind fun t1 =>
  (Pl.mul t1 v_unit).bind fun t2 =>
  ((if (decide (t2 < v_length)) = true then
  (some ((t1 + (1 : Int)))).bind fun v_many4 =>
  some (v_many4)
  else
  some (t1)) : Option (Int)).bind fun j3 =>
  some j3
theorem q_law_counted {v_length : Int} {v_unit : Int} (h : List D) {r : Int} (hr : p_law_counted v_length v_unit = some r) : m_law_counted [eI v_length, eI v_unit] h = some (eI r, h) := by
  refine Rf.fn (o := p_law_counted v_length v_unit) (e := eI) (hp := (fun _ : Int => h)) (s := [.val (eI v_length), .val (eI v_unit), .no]) rfl rfl ?_ hr
  unfold p_law_counted b_law_counted
  refine Rf.bd fun t1 h_t1 => ?_
  refine Rf.set0 (d := eI t1) (ev_divP (ev_var rfl) (ev_var rfl) h_t1) rfl (sl_s (sl_s sl_z)) ?_
  refine Rf.bd fun t2 h_t2 => ?_
  refine Rf.thn (β := Int) (fun j3 z' => z' = ⟨[.val (eI v_length), .val (eI v_unit), .val (eI j3)], h⟩) ?_ ?_
  · refine Rf.last ?_
    refine Rf.ite (tv (ev_lt (ev_mulP (ev_var rfl) (ev_var rfl) h_t2) (ev_var rfl))) ?_ ?_
    · refine Rf.setT (t := (t1 + (1 : Int))) eI (ev_add (ev_var rfl) ev_c) (fun _ => rfl) (fun _ => (sl_s (sl_s sl_z))) fun v_many4 => ?_
      exact Rf.fin ⟨rfl, rfl⟩
    · refine Rf.skip ?_
      exact Rf.fin ⟨rfl, rfl⟩
  · rintro j3 _ ⟨rfl⟩
    refine Rf.last ?_
    exact Rf.ret (ev_var rfl) rfl ⟨.inl rfl, rfl⟩

def p_require (v_holds : Bool) (v_name : Str) : Option Unit :=
  (if (!v_holds) = true then
  none
  else
  some ())
theorem q_require {v_holds : Bool} {v_name : Str} (h : List D) {r : Unit} (hr : p_require v_holds v_name = some r) : m_require [eB v_holds, eS v_name] h = some (eN r, h) := by
  refine Rf.fn (o := p_require v_holds v_name) (e := eN) (hp := (fun _ : Unit => h)) (s := [.val (eB v_holds), .val (eS v_name)]) rfl rfl ?_ hr
  unfold p_require b_require
  refine Rf.last ?_
  refine Rf.ite (tt_not (tt_tru (ev_var rfl) rfl)) ?_ ?_
  · exact Rf.none
  · refine Rf.skip ?_
    exact Rf.fin ⟨.inr ⟨rfl, rfl⟩, rfl⟩
def p_ceiled (v_number : Int) (v_unit : Int) : Option Int :=
  (Pl.div (-v_number) v_unit).bind fun t1 =>
  some (-t1)
theorem q_ceiled {v_number : Int} {v_unit : Int} (h : List D) {r : Int} (hr : p_ceiled v_number v_unit = some r) : m_ceiled [eI v_number, eI v_unit] h = some (eI r, h) := by
  refine Rf.fn (o := p_ceiled v_number v_unit) (e := eI) (hp := (fun _ : Int => h)) (s := [.val (eI v_number), .val (eI v_unit)]) rfl rfl ?_ hr
  unfold p_ceiled b_ceiled
  refine Rf.last ?_
  refine Rf.bd fun t1 h_t1 => ?_
  exact Rf.ret (ev_neg (ev_divP (ev_neg (ev_var rfl)) (ev_var rfl) h_t1)) rfl ⟨.inl rfl, rfl⟩
def p_Settings___init__ (v_columns : Int) (v_rows : Int) (v_cell : Int) (v_level : Int) (v_width : Int) (v_height : Int) (v_step : Int) (v_slope : (Int × Int)) (v_slack : Int) (v_tile : Int) : Option PSettings :=
  (p_require ((decide ((1 : Int) ≤ v_columns)) && (decide (v_columns ≤ (64 : Int)))) ("columns" : Str)).bind fun t1 =>
  (p_require ((decide ((1 : Int) ≤ v_rows)) && (decide (v_rows ≤ (64 : Int)))) ("rows" : Str)).bind fun t2 =>
  (p_require ((decide ((3 : Int) ≤ v_cell)) && (decide (v_cell ≤ (1000 : Int)))) ("cell" : Str)).bind fun t3 =>
  (p_require ((decide ((1 : Int) ≤ v_level)) && (decide (v_level ≤ (1000 : Int)))) ("level" : Str)).bind fun t4 =>
  (Pl.andO (decide ((0 : Int) ≤ v_width)) ((Pl.mul (4 : Int) v_cell).bind fun t5 => some (decide (v_width ≤ t5)))).bind fun t6 =>
  (p_require t6 ("width" : Str)).bind fun t7 =>
  (Pl.andO (decide ((1 : Int) ≤ v_height)) ((Pl.mul (1000 : Int) v_level).bind fun t8 => some (decide (v_height ≤ t8)))).bind fun t9 =>
  (p_require t9 ("height" : Str)).bind fun t10 =>
  (p_ceiled v_height v_level).bind fun t11 =>
  (some t11).bind fun v_tall12 =>
  (Pl.div v_step v_level).bind fun t13 =>
  (some t13).bind fun v_rise14 =>
  (Pl.andO (decide ((0 : Int) ≤ v_step)) ((Pl.mul (2 : Int) v_rise14).bind fun t15 => some (decide (t15 < v_tall12)))).bind fun t16 =>
  (p_require t16 ("step" : Str)).bind fun t17 =>
  (p_require (((decide ((0 : Int) ≤ v_slope.1)) && ((decide (v_slope.1 ≤ v_slope.2)) && (decide (v_slope.2 ≤ (1000 : Int))))) && (decide ((0 : Int) < v_slope.2))) ("slope" : Str)).bind fun t18 =>
  (p_require ((decide ((0 : Int) ≤ v_slack)) && (decide (v_slack ≤ (1000 : Int)))) ("slack" : Str)).bind fun t19 =>
  (p_require ((decide ((2 : Int) ≤ v_tile)) && (decide (v_tile ≤ (16 : Int)))) ("tile" : Str)).bind fun t20 =>
  (some v_columns).bind fun v_columns21 =>
  (some v_rows).bind fun v_rows22 =>
  (some v_cell).bind fun v_cell23 =>
  (some v_level).bind fun v_level24 =>
  (some v_width).bind fun v_width25 =>
  (some v_height).bind fun v_height26 =>
  (some v_step).bind fun v_step27 =>
  (some v_slope).bind fun v_slope28 =>
  (some v_slack).bind fun v_slack29 =>
  (some v_tile).bind fun v_tile30 =>
  (p_ceiled v_width v_cell).bind fun t31 =>
  (some t31).bind fun v_reach32 =>
  some (⟨v_tall12, v_rise14, v_columns21, v_rows22, v_cell23, v_level24, v_width25, v_height26, v_step27, v_slope28, v_slack29, v_tile30, v_reach32⟩ : PSettings)
theorem q_Settings___init__ {v_columns : Int} {v_rows : Int} {v_cell : Int} {v_level : Int} {v_width : Int} {v_height : Int} {v_step : Int} {v_slope : (Int × Int)} {v_slack : Int} {v_tile : Int} (h : List D) {r : PSettings} (hr : p_Settings___init__ v_columns v_rows v_cell v_level v_width v_height v_step v_slope v_slack v_tile = some r) : m_Settings___init__ [.ref h.length, eI v_columns, eI v_rows, eI v_cell, eI v_level, eI v_width, eI v_height, eI v_step, (e2 eI eI) v_slope, eI v_slack, eI v_tile] (h ++ [.ins "Settings" []]) = some (.non, h ++ [eSettings r]) := by
  refine Rf.fn (o := p_Settings___init__ v_columns v_rows v_cell v_level v_width v_height v_step v_slope v_slack v_tile) (e := (fun _ : PSettings => .non)) (hp := (fun r : PSettings => h ++ [eSettings r])) (s := [.val (.ref h.length), .val (eI v_columns), .val (eI v_rows), .val (eI v_cell), .val (eI v_level), .val (eI v_width), .val (eI v_height), .val (eI v_step), .val ((e2 eI eI) v_slope), .val (eI v_slack), .val (eI v_tile)]) rfl rfl ?_ hr
  unfold p_Settings___init__ b_Settings___init__
  refine Rf.bd fun t1 h_t1 => ?_
  refine Rf.drop (ev_call (ev_args (ev_chain ev_c (ev_var rfl) rfl (fun _ => ev_c) (fun _ => rfl)) (ev_args ev_c ev_args0 rfl) rfl) (q_require _ h_t1)) ?_
  refine Rf.bd fun t2 h_t2 => ?_
  refine Rf.drop (ev_call (ev_args (ev_chain ev_c (ev_var rfl) rfl (fun _ => ev_c) (fun _ => rfl)) (ev_args ev_c ev_args0 rfl) rfl) (q_require _ h_t2)) ?_
  refine Rf.bd fun t3 h_t3 => ?_
  refine Rf.drop (ev_call (ev_args (ev_chain ev_c (ev_var rfl) rfl (fun _ => ev_c) (fun _ => rfl)) (ev_args ev_c ev_args0 rfl) rfl) (q_require _ h_t3)) ?_
  refine Rf.bd fun t4 h_t4 => ?_
  refine Rf.drop (ev_call (ev_args (ev_chain ev_c (ev_var rfl) rfl (fun _ => ev_c) (fun _ => rfl)) (ev_args ev_c ev_args0 rfl) rfl) (q_require _ h_t4)) ?_
  refine Rf.bd fun t6 h_t6 => ?_
  refine Rf.bd fun t7 h_t7 => ?_
  refine Rf.drop (ev_call (ev_args (ev_chainO ev_c (ev_var rfl) rfl (fun q hq => by obtain ⟨t5, h_t5, hq⟩ := bI hq; cases hq; exact ⟨_, (ev_mulP ev_c (ev_var rfl) h_t5), rfl⟩) h_t6) (ev_args ev_c ev_args0 rfl) rfl) (q_require _ h_t7)) ?_
  refine Rf.bd fun t9 h_t9 => ?_
  refine Rf.bd fun t10 h_t10 => ?_
  refine Rf.drop (ev_call (ev_args (ev_chainO ev_c (ev_var rfl) rfl (fun q hq => by obtain ⟨t8, h_t8, hq⟩ := bI hq; cases hq; exact ⟨_, (ev_mulP ev_c (ev_var rfl) h_t8), rfl⟩) h_t9) (ev_args ev_c ev_args0 rfl) rfl) (q_require _ h_t10)) ?_
  refine Rf.bd fun t11 h_t11 => ?_
  refine Rf.fset (ks := []) (t := t11) eI (ev_call (ev_args (ev_var rfl) (ev_args (ev_var rfl) ev_args0 rfl) rfl) (q_ceiled _ h_t11)) (fun _ => rfl) rfl rfl (by decide +kernel) (by decide) (fs' := fun x => [("tall", eI x)]) (fun _ => rfl) fun v_tall12 => ?_
  refine Rf.bd fun t13 h_t13 => ?_
  refine Rf.fset (ks := ["tall"]) (t := t13) eI (ev_divP (ev_var rfl) (ev_var rfl) h_t13) (fun _ => rfl) rfl rfl (by decide +kernel) (by decide) (fs' := fun x => [("tall", eI v_tall12), ("rise", eI x)]) (fun _ => rfl) fun v_rise14 => ?_
  refine Rf.bd fun t16 h_t16 => ?_
  refine Rf.bd fun t17 h_t17 => ?_
  refine Rf.drop (ev_call (ev_args (ev_andO (ev_ge (ev_var rfl) ev_c) (fun q hq => by obtain ⟨t15, h_t15, hq⟩ := bI hq; cases hq; exact (ev_lt (ev_mulP ev_c (ev_fldN (i := 0) rfl (lookup_atK (ks := ["tall", "rise"]) (i := 1) rfl rfl (by decide +kernel))) h_t15) (ev_fldN (i := 0) rfl (lookup_atK (ks := ["tall", "rise"]) (i := 0) rfl rfl (by decide +kernel))))) h_t16) (ev_args ev_c ev_args0 rfl) rfl) (q_require _ h_t17)) ?_
  refine Rf.bd fun t18 h_t18 => ?_
  refine Rf.drop (ev_call (ev_args (ev_and (ev_chain3 ev_c (ev_ix (ev_var rfl) ev_c rfl rfl) rfl (ev_ix (ev_var rfl) ev_c rfl rfl) rfl ev_c rfl) fun _ => (ev_gt (ev_ix (ev_var rfl) ev_c rfl rfl) ev_c)) (ev_args ev_c ev_args0 rfl) rfl) (q_require _ h_t18)) ?_
  refine Rf.bd fun t19 h_t19 => ?_
  refine Rf.drop (ev_call (ev_args (ev_chain ev_c (ev_var rfl) rfl (fun _ => ev_c) (fun _ => rfl)) (ev_args ev_c ev_args0 rfl) rfl) (q_require _ h_t19)) ?_
  refine Rf.bd fun t20 h_t20 => ?_
  refine Rf.drop (ev_call (ev_args (ev_chain ev_c (ev_var rfl) rfl (fun _ => ev_c) (fun _ => rfl)) (ev_args ev_c ev_args0 rfl) rfl) (q_require _ h_t20)) ?_
  refine Rf.fset (ks := ["tall", "rise"]) (t := v_columns) eI (ev_var rfl) (fun _ => rfl) rfl rfl (by decide +kernel) (by decide) (fs' := fun x => [("tall", eI v_tall12), ("rise", eI v_rise14), ("columns", eI x)]) (fun _ => rfl) fun v_columns21 => ?_
  refine Rf.fset (ks := ["tall", "rise", "columns"]) (t := v_rows) eI (ev_var rfl) (fun _ => rfl) rfl rfl (by decide +kernel) (by decide) (fs' := fun x => [("tall", eI v_tall12), ("rise", eI v_rise14), ("columns", eI v_columns21), ("rows", eI x)]) (fun _ => rfl) fun v_rows22 => ?_
  refine Rf.fset (ks := ["tall", "rise", "columns", "rows"]) (t := v_cell) eI (ev_var rfl) (fun _ => rfl) rfl rfl (by decide +kernel) (by decide) (fs' := fun x => [("tall", eI v_tall12), ("rise", eI v_rise14), ("columns", eI v_columns21), ("rows", eI v_rows22), ("cell", eI x)]) (fun _ => rfl) fun v_cell23 => ?_
  refine Rf.fset (ks := ["tall", "rise", "columns", "rows", "cell"]) (t := v_level) eI (ev_var rfl) (fun _ => rfl) rfl rfl (by decide +kernel) (by decide) (fs' := fun x => [("tall", eI v_tall12), ("rise", eI v_rise14), ("columns", eI v_columns21), ("rows", eI v_rows22), ("cell", eI v_cell23), ("level", eI x)]) (fun _ => rfl) fun v_level24 => ?_
  refine Rf.fset (ks := ["tall", "rise", "columns", "rows", "cell", "level"]) (t := v_width) eI (ev_var rfl) (fun _ => rfl) rfl rfl (by decide +kernel) (by decide) (fs' := fun x => [("tall", eI v_tall12), ("rise", eI v_rise14), ("columns", eI v_columns21), ("rows", eI v_rows22), ("cell", eI v_cell23), ("level", eI v_level24), ("width", eI x)]) (fun _ => rfl) fun v_width25 => ?_
  refine Rf.fset (ks := ["tall", "rise", "columns", "rows", "cell", "level", "width"]) (t := v_height) eI (ev_var rfl) (fun _ => rfl) rfl rfl (by decide +kernel) (by decide) (fs' := fun x => [("tall", eI v_tall12), ("rise", eI v_rise14), ("columns", eI v_columns21), ("rows", eI v_rows22), ("cell", eI v_cell23), ("level", eI v_level24), ("width", eI v_width25), ("height", eI x)]) (fun _ => rfl) fun v_height26 => ?_
  refine Rf.fset (ks := ["tall", "rise", "columns", "rows", "cell", "level", "width", "height"]) (t := v_step) eI (ev_var rfl) (fun _ => rfl) rfl rfl (by decide +kernel) (by decide) (fs' := fun x => [("tall", eI v_tall12), ("rise", eI v_rise14), ("columns", eI v_columns21), ("rows", eI v_rows22), ("cell", eI v_cell23), ("level", eI v_level24), ("width", eI v_width25), ("height", eI v_height26), ("step", eI x)]) (fun _ => rfl) fun v_step27 => ?_
  refine Rf.fset (ks := ["tall", "rise", "columns", "rows", "cell", "level", "width", "height", "step"]) (t := v_slope) (e2 eI eI) (ev_blt1 (ev_var rfl) (lf_tuple rfl rfl)) (fun _ => rfl) rfl rfl (by decide +kernel) (by decide) (fs' := fun x => [("tall", eI v_tall12), ("rise", eI v_rise14), ("columns", eI v_columns21), ("rows", eI v_rows22), ("cell", eI v_cell23), ("level", eI v_level24), ("width", eI v_width25), ("height", eI v_height26), ("step", eI v_step27), ("slope", (e2 eI eI) x)]) (fun _ => rfl) fun v_slope28 => ?_
  refine Rf.fset (ks := ["tall", "rise", "columns", "rows", "cell", "level", "width", "height", "step", "slope"]) (t := v_slack) eI (ev_var rfl) (fun _ => rfl) rfl rfl (by decide +kernel) (by decide) (fs' := fun x => [("tall", eI v_tall12), ("rise", eI v_rise14), ("columns", eI v_columns21), ("rows", eI v_rows22), ("cell", eI v_cell23), ("level", eI v_level24), ("width", eI v_width25), ("height", eI v_height26), ("step", eI v_step27), ("slope", (e2 eI eI) v_slope28), ("slack", eI x)]) (fun _ => rfl) fun v_slack29 => ?_
  refine Rf.fset (ks := ["tall", "rise", "columns", "rows", "cell", "level", "width", "height", "step", "slope", "slack"]) (t := v_tile) eI (ev_var rfl) (fun _ => rfl) rfl rfl (by decide +kernel) (by decide) (fs' := fun x => [("tall", eI v_tall12), ("rise", eI v_rise14), ("columns", eI v_columns21), ("rows", eI v_rows22), ("cell", eI v_cell23), ("level", eI v_level24), ("width", eI v_width25), ("height", eI v_height26), ("step", eI v_step27), ("slope", (e2 eI eI) v_slope28), ("slack", eI v_slack29), ("tile", eI x)]) (fun _ => rfl) fun v_tile30 => ?_
  refine Rf.last ?_
  refine Rf.bd fun t31 h_t31 => ?_
  refine Rf.fset (ks := ["tall", "rise", "columns", "rows", "cell", "level", "width", "height", "step", "slope", "slack", "tile"]) (t := t31) eI (ev_call (ev_args (ev_var rfl) (ev_args (ev_var rfl) ev_args0 rfl) rfl) (q_ceiled _ h_t31)) (fun _ => rfl) rfl rfl (by decide +kernel) (by decide) (fs' := fun x => [("tall", eI v_tall12), ("rise", eI v_rise14), ("columns", eI v_columns21), ("rows", eI v_rows22), ("cell", eI v_cell23), ("level", eI v_level24), ("width", eI v_width25), ("height", eI v_height26), ("step", eI v_step27), ("slope", (e2 eI eI) v_slope28), ("slack", eI v_slack29), ("tile", eI v_tile30), ("reach", eI x)]) (fun _ => rfl) fun v_reach32 => ?_
  exact Rf.fin ⟨.inr ⟨rfl, rfl⟩, rfl⟩

end W

set_option Elab.async false
set_option linter.all false
set_option maxRecDepth 100000
/-! more of the reasoning over plain terms -/
namespace Mi
open PySem L2
section
variable {α β γ σ ρ : Type} {Φ : α → Prop}
/-- a comprehension by draws: each element by what it was made of -/
theorem Tot.cmpS {f : β → σ → Option (γ × σ)} {P : β → γ → Prop} : ∀ {xs : List β} {s : σ}, (∀ x ∈ xs, ∀ s, Tot (f x s) fun q => P x q.1) → Tot (Pl.cmpS f xs s) fun r => r.1.length = xs.length ∧ ∀ y ∈ r.1, ∃ x ∈ xs, P x y
  | [], s, _ => ⟨([], s), rfl, rfl, fun _ h => nomatch h⟩
  | x :: xs, s, h => by
    obtain ⟨q, e, p⟩ := h x List.mem_cons_self s
    obtain ⟨r, e2, p2, p3⟩ := Tot.cmpS (xs := xs) (s := q.2) fun y hy => h y (List.mem_cons_of_mem _ hy)
    refine ⟨(q.1 :: r.1, r.2), ?_, by simp [p2], fun y hy => ?_⟩
    · rw [Pl.cmpS, e]
      show (Pl.cmpS f xs q.2).bind _ = _
      rw [e2]
      rfl
    · rcases List.mem_cons.mp hy with rfl | hy
      · exact ⟨x, List.mem_cons_self, p⟩
      · obtain ⟨z, hz, pz⟩ := p3 y hy
        exact ⟨z, List.mem_cons_of_mem _ hz, pz⟩
theorem Tot.compS {f : β → σ → Option (γ × σ)} {xs : List β} {s : σ} {K : List γ × σ → Option α} (P : β → γ → Prop) (hl : xs.length ≤ szl) (h : ∀ x ∈ xs, ∀ s, Tot (f x s) fun q => P x q.1)
    (k : ∀ ys s, ys.length = xs.length → (∀ y ∈ ys, ∃ x ∈ xs, P x y) → Tot (K (ys, s)) Φ) : Tot ((Pl.compS f xs s).bind K) Φ := by
  refine Tot.bind (Ψ := fun r => r.1.length = xs.length ∧ ∀ y ∈ r.1, ∃ x ∈ xs, P x y) ?_ fun r q => k r.1 r.2 q.1 q.2
  unfold Pl.compS
  rw [if_pos hl]
  exact Tot.cmpS h
theorem Tot.compS3 {f : β → σ → Option (γ × σ)} {a b c : β} {s : σ} {K : List γ × σ → Option α} (P : β → γ → Prop) (h : ∀ x ∈ [a, b, c], ∀ s, Tot (f x s) fun q => P x q.1)
    (k : ∀ x y z s, P a x → P b y → P c z → Tot (K ([x, y, z], s)) Φ) : Tot ((Pl.compS f [a, b, c] s).bind K) Φ := by
  obtain ⟨q0, e0, p0⟩ := h a (by simp) s
  obtain ⟨q1, e1, p1⟩ := h b (by simp) q0.2
  obtain ⟨q2, e2, p2⟩ := h c (by simp) q1.2
  refine Tot.of (r := ([q0.1, q1.1, q2.1], q2.2)) ?_ (k _ _ _ _ p0 p1 p2)
  unfold Pl.compS
  rw [if_pos (show [a, b, c].length ≤ szl from (by decide : 3 ≤ szl))]
  simp only [Pl.cmpS, e0, e1, e2, Option.bind_some]
theorem rng3O : Pl.rngO 0 (3 : Int) = some [0, 1, 2] := by
  unfold Pl.rngO
  rw [if_pos (by decide)]
  rfl
theorem forN3 {f : β → σ → Option σ} {a b c : β} {s s1 s2 s3 : σ} (h0 : f a s = some s1) (h1 : f b s1 = some s2) (h2 : f c s2 = some s3) : Pl.forN f [a, b, c] s = some s3 := by
  simp [Pl.forN, h0, h1, h2]
theorem comp3 {f : β → Option γ} {a b c : β} {x y z : γ} (h0 : f a = some x) (h1 : f b = some y) (h2 : f c = some z) : Pl.comp (fun _ => some true) f [a, b, c] = some [x, y, z] := by
  unfold Pl.comp
  rw [if_pos (show [a, b, c].length ≤ szl from (by decide : 3 ≤ szl))]
  simp [Pl.cmp, h0, h1, h2]
theorem Tot.for3 {f : β → σ → Option σ} {a b c : β} {s : σ} {K : σ → Option α} (s1 s2 s3 : σ) (h0 : Tot (f a s) fun r => r = s1) (h1 : Tot (f b s1) fun r => r = s2) (h2 : Tot (f c s2) fun r => r = s3) (k : Tot (K s3) Φ) : Tot ((Pl.forN f [a, b, c] s).bind K) Φ :=
  Tot.of (forN3 h0.get h1.get h2.get) k
theorem forO3 {f : β → Unit → Option (Pl.Out Unit Bool)} {a b c : β} {p q r : Bool} (h0 : f a () = some (if p = true then .ret true else .go ())) (h1 : f b () = some (if q = true then .ret true else .go ())) (h2 : f c () = some (if r = true then .ret true else .go ())) :
    Pl.forO f [a, b, c] () = some (if (p || (q || r)) = true then .inr true else .inl ()) := by
  cases p <;> cases q <;> cases r <;> simp [Pl.forO, h0, h1, h2]
theorem forO_congr {f g : β → σ → Option (Pl.Out σ ρ)} : ∀ {xs : List β} (s : σ), (∀ x ∈ xs, ∀ s, f x s = g x s) → Pl.forO f xs s = Pl.forO g xs s
  | [], s, _ => rfl
  | x :: xs, s, h => by
    rw [Pl.forO, Pl.forO, h x List.mem_cons_self s]
    cases g x s with
    | none => rfl
    | some o =>
      cases o with
      | go s2 => exact forO_congr (xs := xs) s2 fun y hy => h y (List.mem_cons_of_mem _ hy)
      | brk s2 => rfl
      | ret r => rfl
theorem out_congr {f g : β → σ → Option (Pl.Out σ ρ)} {xs : List β} {s : σ} {K1 K2 : σ → Option α} {E : ρ → Option α} (h : ∀ x ∈ xs, ∀ s, f x s = g x s) (k : ∀ s, K1 s = K2 s) : (Pl.forO f xs s).bind (Pl.out K1 E) = (Pl.forO g xs s).bind (Pl.out K2 E) := by
  rw [forO_congr s h, show K1 = K2 from funext k]
/-- the members by their places -/
theorem at_mem {xs : List β} {i : Int} (h : i ∈ Pl.rng 0 (xs.length : Int)) : ∃ x ∈ xs, Pl.at_ xs i = some x := by
  obtain ⟨h0, h1⟩ := rng_mem.mp h
  obtain ⟨x, e, e2⟩ := at_in h0 h1
  exact ⟨x, List.mem_of_getElem? e, e2⟩
theorem mem_at {xs : List β} {x : β} (h : x ∈ xs) : ∃ i ∈ Pl.rng 0 (xs.length : Int), Pl.at_ xs i = some x := by
  obtain ⟨n, hn, e⟩ := List.getElem_of_mem h
  refine ⟨(n : Int), rng_mem.mpr ⟨by omega, by omega⟩, at_t rfl ?_⟩
  rw [List.getElem?_eq_getElem hn, e]
end
end Mi

set_option Elab.async false
set_option linter.all false
set_option maxRecDepth 100000
set_option maxHeartbeats 1000000
/-! law k01: the dict of what is drawn, as the meanings make and read it -/
namespace W
open PySem L2 Mi
section
variable {z z1 z2 : Z} {a b : M D} {s s' : List Sl} {h : List D} {d : D}
structure V01 where
  columns : Int
  rows : Int
  cell : Int
  level : Int
  width : Int
  height : Int
  step : Int
  slope : Int × Int
  slack : Int
  tile : Int
@[reducible] def kvV (v : V01) : List (Key × D) := [(.inr "columns", eI v.columns), (.inr "rows", eI v.rows), (.inr "cell", eI v.cell), (.inr "level", eI v.level), (.inr "width", eI v.width), (.inr "height", eI v.height), (.inr "step", eI v.step), (.inr "slope", e2 eI eI v.slope), (.inr "slack", eI v.slack), (.inr "tile", eI v.tile)]
@[reducible] def eV (v : V01) : D := .dk (kvV v)
/-- a text is a key, or none of the keys -/
theorem getG_at {ks : List Key} {k : Key} : ∀ {kvs : List (Key × D)} {ks : List Key} {i : Nat}, kvs.map Prod.fst = ks → kvs[i]? = some (k, d) → (ks.take i).all (fun q => !decide (q = k)) = true → getG kvs k = some d
  | [], _, i, _, hi, _ => by cases hi
  | kv :: kvs, _, 0, rfl, hi, _ => by
    cases hi
    unfold getG
    rw [List.find?_cons, decide_eq_true rfl]
    rfl
  | kv :: kvs, _, i + 1, rfl, hi, hn => by
    rw [List.map_cons, List.take_succ_cons, List.all_cons, Bool.and_eq_true] at hn
    have ih := getG_at (ks := []) (kvs := kvs) (i := i) rfl (by simpa using hi) hn.2
    unfold getG at ih ⊢
    rw [List.find?_cons]
    have : decide (kv.1 = k) = false := by simpa using hn.1
    rw [this]
    exact ih
theorem dg_at {kvs : List (Key × D)} {ks : List Key} {i : Nat} {k : Str} (hk : kvs.map Prod.fst = ks) (hi : kvs[i]? = some (.inr k, d)) (hn : (ks.take i).all (fun q => !decide (q = .inr k)) = true) : dgetC (.dk kvs) (.str k) = some (some d) := by
  show some (getG kvs (.inr k)) = _
  rw [getG_at (ks := []) hk hi hn]
theorem dp_new {kvs : List (Key × D)} {ks : List Key} {k : Str} (hk : kvs.map Prod.fst = ks) (hn : ks.all (fun q => !decide (q = .inr k)) = true) (hl : kvs.length < szl) : dputC (.dk kvs) (.str k) d = some (.dk (kvs ++ [(.inr k, d)])) := by
  unfold dputC
  dsimp only [keyD]
  rw [if_pos hl]
  congr 2
  unfold putG
  rw [if_neg]
  subst hk
  rw [Bool.not_eq_true, List.any_eq_false]
  intro x hx
  have := List.all_eq_true.mp hn x.1 (List.mem_map_of_mem hx)
  simpa using this
/-! reading what was drawn -/
def keysV : List Key := [.inr "columns", .inr "rows", .inr "cell", .inr "level", .inr "width", .inr "height", .inr "step", .inr "slope", .inr "slack", .inr "tile"]
theorem rd {v : V01} {i : Nat} {k : Str} {d : D} (hi : (kvV v)[i]? = some (.inr k, d)) (hn : (keysV.take i).all (fun q => !decide (q = .inr k)) = true) (ha : a z = some (eV v, z1)) : E.op O.dix a (E.c (.str k)) z = some (d, z1) :=
  ev_dix ha ev_c rfl (dg_at (ks := keysV) rfl hi hn)
theorem rd0 {v : V01} (ha : a z = some (eV v, z1)) : E.op O.dix a (E.c (.str "columns")) z = some (.int v.columns, z1) := rd (i := 0) rfl (by decide +kernel) ha
theorem rd1 {v : V01} (ha : a z = some (eV v, z1)) : E.op O.dix a (E.c (.str "rows")) z = some (.int v.rows, z1) := rd (i := 1) rfl (by decide +kernel) ha
theorem rd2 {v : V01} (ha : a z = some (eV v, z1)) : E.op O.dix a (E.c (.str "cell")) z = some (.int v.cell, z1) := rd (i := 2) rfl (by decide +kernel) ha
theorem rd3 {v : V01} (ha : a z = some (eV v, z1)) : E.op O.dix a (E.c (.str "level")) z = some (.int v.level, z1) := rd (i := 3) rfl (by decide +kernel) ha
theorem rd4 {v : V01} (ha : a z = some (eV v, z1)) : E.op O.dix a (E.c (.str "width")) z = some (.int v.width, z1) := rd (i := 4) rfl (by decide +kernel) ha
theorem rd5 {v : V01} (ha : a z = some (eV v, z1)) : E.op O.dix a (E.c (.str "height")) z = some (.int v.height, z1) := rd (i := 5) rfl (by decide +kernel) ha
theorem rd6 {v : V01} (ha : a z = some (eV v, z1)) : E.op O.dix a (E.c (.str "step")) z = some (.int v.step, z1) := rd (i := 6) rfl (by decide +kernel) ha
theorem rd7 {v : V01} (ha : a z = some (eV v, z1)) : E.op O.dix a (E.c (.str "slope")) z = some (e2 eI eI v.slope, z1) := rd (i := 7) rfl (by decide +kernel) ha
theorem rd8 {v : V01} (ha : a z = some (eV v, z1)) : E.op O.dix a (E.c (.str "slack")) z = some (.int v.slack, z1) := rd (i := 8) rfl (by decide +kernel) ha
theorem rd9 {v : V01} (ha : a z = some (eV v, z1)) : E.op O.dix a (E.c (.str "tile")) z = some (.int v.tile, z1) := rd (i := 9) rfl (by decide +kernel) ha
/-! ### it is drawn -/
theorem draw_t {s : DS} {many : Int} (h : 0 < many) (h2 : many ≤ 1000000000000) : Tot (Pl.draw s many) fun r => 0 ≤ r.1 ∧ r.1 < many := by
  have := Tot.draw (s := s) (K := fun r => some r) (Φ := fun r : Int × DS => 0 ≤ r.1 ∧ r.1 < many) h h2 fun v s2 a b => ⟨_, rfl, a, b⟩
  obtain ⟨r, e, q⟩ := this
  refine ⟨r, ?_, q⟩
  cases hd : Pl.draw s many with
  | none => rw [hd] at e; cases e
  | some x => rw [hd] at e; exact e
theorem near_t {lo hi : Int} (h : lo ≤ hi) (hb : hi - lo ≤ 1000000000) (s : DS) : Tot (p_law_near lo hi s) fun r => lo - 1 ≤ r.1 ∧ r.1 ≤ hi + 1 := by
  unfold p_law_near
  refine Tot.draw (by decide) (by decide) fun k s1 _ _ => ?_
  refine Tot.ite (fun _ => ?_) fun _ => Tot.ite (fun _ => ?_) fun _ => ?_
  · refine Tot.draw (by decide) (by decide) fun j s2 j0 j1 => ?_
    have : j = 0 ∨ j = 1 := by omega
    rcases this with rfl | rfl
    · exact ⟨_, rfl, by dsimp only; omega⟩
    · exact ⟨_, rfl, by dsimp only; omega⟩
  · refine Tot.draw (by decide) (by decide) fun j s2 j0 j1 => ?_
    have : j = 0 ∨ j = 1 := by omega
    rcases this with rfl | rfl
    · exact ⟨_, rfl, by dsimp only; omega⟩
    · exact ⟨_, rfl, by dsimp only; omega⟩
  · refine Tot.draw (by omega) (by omega) fun j s2 j0 j1 => ⟨_, rfl, by dsimp only; omega⟩
section
variable {sl : List Sl} {tl : List D}
theorem nr {lo hi : Int} {s0 s1 s2 : DS} {r : Int × DS} (h0 : sl[0]? = some (.val (.ref 1))) (ha : a ⟨sl, stT s0 tl⟩ = some (.int lo, ⟨sl, stT s1 tl⟩)) (hb : b ⟨sl, stT s1 tl⟩ = some (.int hi, ⟨sl, stT s2 tl⟩)) (e : p_law_near lo hi s2 = some r) : E.call m_law_near [E.var 0, a, b] ⟨sl, stT s0 tl⟩ = some (.int r.1, ⟨sl, stT r.2 tl⟩) :=
  ev_call (ev_args (ev_var h0) (ev_args ha (ev_args hb ev_args0 rfl) rfl) rfl) (q_law_near tl e)
theorem pk (h0 : sl[0]? = some (.val (.ref 1))) (i j : Int) (s0 : DS) : ∃ x s1, (x = i ∨ x = j) ∧ E.op O.ix (E.frz (N.disp [(E.c (.int i)), (E.c (.int j))])) (E.call m_law_draw [(E.var 0), (E.c (.int 2))]) ⟨sl, stT s0 tl⟩ = some (.int x, ⟨sl, stT s1 tl⟩) := by
  obtain ⟨⟨k, s1⟩, e, k0, k1⟩ := draw_t (s := s0) (many := 2) (by decide) (by decide)
  dsimp only at k0 k1
  have hk : k = 0 ∨ k = 1 := by omega
  have ec := ev_call (z := ⟨sl, stT s0 tl⟩) (as := [(E.var 0), (E.c (.int 2))]) (ev_args (ev_var h0) (ev_args ev_c ev_args0 rfl) rfl) (q_law_draw tl e)
  have ef : E.frz (N.disp [(E.c (.int i)), (E.c (.int j))]) ⟨sl, stT s0 tl⟩ = some (.lst [.int i, .int j], ⟨sl, stT s0 tl⟩) := ev_frz (ev_disp (ev_args ev_c (ev_args ev_c ev_args0 rfl) rfl))
  rcases hk with rfl | rfl
  · exact ⟨i, s1, .inl rfl, ev_ix ef ec rfl rfl⟩
  · exact ⟨j, s1, .inr rfl, ev_ix ef ec rfl rfl⟩
theorem mx {x y : Int} {s0 s1 : DS} (ha : a ⟨sl, stT s0 tl⟩ = some (.int x, ⟨sl, stT s1 tl⟩)) : E.blt F.max2 [a, (E.c (.int y))] ⟨sl, stT s0 tl⟩ = some (.int (if y > x then y else x), ⟨sl, stT s1 tl⟩) := ev_blt2 (ev_args ha (ev_args ev_c ev_args0 rfl) rfl) lf_max2
theorem put {kvs : List (Key × D)} {ks : List Key} {k : Str} {e : M D} {h1 : List D} (hd : e ⟨[.val (.ref 1), .own (.dk kvs)], h⟩ = some (d, ⟨[.val (.ref 1), .own (.dk kvs)], h1⟩)) (hp : isPure d = true) (hk : kvs.map Prod.fst = ks) (hn : ks.all (fun q => !decide (q = .inr k)) = true) (hl : ks.length < szl) : C.dput (E.var 1) (E.c (.str k)) e ⟨[.val (.ref 1), .own (.dk kvs)], h⟩ = some (.nx, ⟨[.val (.ref 1), .own (.dk (kvs ++ [(.inr k, d)]))], h1⟩) :=
  cs_dputO (n := 1) hd (ev_varO rfl) ev_c rfl (dp_new hk hn (by rw [← hk, List.length_map] at hl; exact hl)) hp rfl
theorem rdo {kvs : List (Key × D)} {ks : List Key} {i : Nat} {k : Str} (hk : kvs.map Prod.fst = ks) (hi : kvs[i]? = some (.inr k, d)) (hn : (ks.take i).all (fun q => !decide (q = .inr k)) = true) : E.op O.dix (E.var 1) (E.c (.str k)) ⟨[.val (.ref 1), .own (.dk kvs)], h⟩ = some (d, ⟨[.val (.ref 1), .own (.dk kvs)], h⟩) :=
  ev_dix (ev_varO rfl) ev_c rfl (dg_at hk hi hn)
end
structure VOk (v : V01) : Prop where
  cell : 2 ≤ v.cell ∧ v.cell ≤ 1001
  level : 0 ≤ v.level ∧ v.level ≤ 1001
  width : -1 ≤ v.width ∧ v.width ≤ 5000
  height : 0 ≤ v.height ∧ v.height ≤ 2000000
  step : -1 ≤ v.step ∧ v.step ≤ 3000000
theorem draws_ev (s0 : DS) (tl : List D) : ∃ v s1, VOk v ∧ m_law_draws [.ref 1] (stT s0 tl) = some (eV v, stT s1 tl) := by
  obtain ⟨⟨c, s1⟩, e1, b1⟩ := near_t (lo := 1) (hi := 64) (by decide) (by decide) s0
  obtain ⟨⟨r, s2⟩, e2_, b2⟩ := near_t (lo := 1) (hi := 64) (by decide) (by decide) s1
  obtain ⟨x3, s3', p3, q3⟩ := pk (sl := [.val (.ref 1), .own (.dk [(.inr "columns", .int c), (.inr "rows", .int r)])]) (tl := tl) rfl 12 1000 s2
  obtain ⟨⟨ce, s3⟩, e3_, b3⟩ := near_t (lo := 3) (hi := x3) (by omega) (by omega) s3'
  obtain ⟨x4, s4', p4, q4⟩ := pk (sl := [.val (.ref 1), .own (.dk [(.inr "columns", .int c), (.inr "rows", .int r), (.inr "cell", .int ce)])]) (tl := tl) rfl 6 1000 s3
  obtain ⟨⟨le, s4⟩, e4_, b4⟩ := near_t (lo := 1) (hi := x4) (by omega) (by omega) s4'
  dsimp only at b1 b2 b3 b4
  have m5 : (if (1 : Int) > ce then 1 else ce) = ce := by rw [if_neg (by omega)]
  obtain ⟨⟨wi, s5⟩, e5_, b5⟩ := near_t (lo := 0) (hi := 4 * ce) (by omega) (by omega) s4
  obtain ⟨x6, s6', p6, q6⟩ := pk (sl := [.val (.ref 1), .own (.dk [(.inr "columns", .int c), (.inr "rows", .int r), (.inr "cell", .int ce), (.inr "level", .int le), (.inr "width", .int wi)])]) (tl := tl) rfl 20 1000 s5
  generalize hL : (if (1 : Int) > le then 1 else le) = L at *
  have bL : 1 ≤ L ∧ L ≤ 1001 := by rw [← hL]; split <;> omega
  have bLx : 1 ≤ L * x6 ∧ L * x6 ≤ 1001000 := by rcases p6 with rfl | rfl <;> omega
  obtain ⟨⟨he, s6⟩, e6_, b6⟩ := near_t (lo := 1) (hi := L * x6) (by omega) (by omega) s6'
  dsimp only at b5 b6
  generalize hM : (if (1 : Int) > he then 1 else he) = H at *
  have bH : 1 ≤ H ∧ H ≤ 2000000 := by rw [← hM]; split <;> omega
  obtain ⟨⟨st, s7⟩, e7_, b7⟩ := near_t (lo := 0) (hi := H) (by omega) (by omega) s6
  obtain ⟨⟨nu, s8⟩, e8_, b8⟩ := near_t (lo := 0) (hi := 10) (by decide) (by decide) s7
  obtain ⟨x9, s9', p9, q9⟩ := pk (sl := [.val (.ref 1), .own (.dk [(.inr "columns", .int c), (.inr "rows", .int r), (.inr "cell", .int ce), (.inr "level", .int le), (.inr "width", .int wi), (.inr "height", .int he), (.inr "step", .int st)])]) (tl := tl) rfl 12 1000 s8
  obtain ⟨⟨de, s9⟩, e9_, b9⟩ := near_t (lo := 1) (hi := x9) (by omega) (by omega) s9'
  obtain ⟨⟨sk, s10⟩, e10_, b10⟩ := near_t (lo := 0) (hi := 1000) (by decide) (by decide) s9
  obtain ⟨⟨ti, s11⟩, e11_, b11⟩ := near_t (lo := 2) (hi := 16) (by decide) (by decide) s10
  dsimp only at b7
  refine ⟨⟨c, r, ce, le, wi, he, st, (nu, de), sk, ti⟩, s11, ⟨by dsimp only; omega, by dsimp only; omega, by dsimp only; omega, by dsimp only; omega, by dsimp only; omega⟩, ?_⟩
  refine fn_rtH (s := [.val (.ref 1), .no]) rfl ?_
  unfold b_law_draws
  refine cs_nx (cs_ownD (s' := [.val (.ref 1), .own (.dk [(.inr "columns", .int c), (.inr "rows", .int r)])]) (h := stT s2 tl) (ev_dispK (ev_pairs ev_c (nr rfl ev_c ev_c e1) (ev_pairs ev_c (nr rfl ev_c ev_c e2_) ev_pairs0 rfl rfl) rfl rfl)) (by decide) ?_) ?_
  · show [Sl.val (.ref 1), Sl.own (.dk (mergeG [] [(.inr "columns", .int c), (.inr "rows", .int r)]))] = _
    congr 3
  refine cs_nx (put (ks := [.inr "columns", .inr "rows"]) (nr rfl ev_c q3 e3_) rfl rfl (by decide +kernel) (by decide)) ?_
  refine cs_nx (put (ks := [.inr "columns", .inr "rows", .inr "cell"]) (nr rfl ev_c q4 e4_) rfl rfl (by decide +kernel) (by decide)) ?_
  have w5 := mx (y := 1) (rdo (h := stT s4 tl) (kvs := [(.inr "columns", .int c), (.inr "rows", .int r), (.inr "cell", .int ce), (.inr "level", .int le)]) (ks := [.inr "columns", .inr "rows", .inr "cell", .inr "level"]) (i := 2) (k := "cell") rfl rfl (by decide +kernel))
  rw [m5] at w5
  refine cs_nx (put (ks := [.inr "columns", .inr "rows", .inr "cell", .inr "level"]) (nr rfl ev_c (ev_mulP ev_c w5 (mul64 ⟨by omega, by omega⟩ ⟨by omega, by omega⟩)) e5_) rfl rfl (by decide +kernel) (by decide)) ?_
  have w6 := mx (y := 1) (rdo (h := stT s5 tl) (kvs := [(.inr "columns", .int c), (.inr "rows", .int r), (.inr "cell", .int ce), (.inr "level", .int le), (.inr "width", .int wi)]) (ks := [.inr "columns", .inr "rows", .inr "cell", .inr "level", .inr "width"]) (i := 3) (k := "level") rfl rfl (by decide +kernel))
  rw [hL] at w6
  refine cs_nx (put (ks := [.inr "columns", .inr "rows", .inr "cell", .inr "level", .inr "width"]) (nr rfl ev_c (ev_mulP w6 q6 (mul64 ⟨by omega, by omega⟩ ⟨by omega, by omega⟩)) e6_) rfl rfl (by decide +kernel) (by decide)) ?_
  have w7 := mx (y := 1) (rdo (h := stT s6 tl) (kvs := [(.inr "columns", .int c), (.inr "rows", .int r), (.inr "cell", .int ce), (.inr "level", .int le), (.inr "width", .int wi), (.inr "height", .int he)]) (ks := [.inr "columns", .inr "rows", .inr "cell", .inr "level", .inr "width", .inr "height"]) (i := 5) (k := "height") rfl rfl (by decide +kernel))
  rw [hM] at w7
  refine cs_nx (put (ks := [.inr "columns", .inr "rows", .inr "cell", .inr "level", .inr "width", .inr "height"]) (nr rfl ev_c w7 e7_) rfl rfl (by decide +kernel) (by decide)) ?_
  refine cs_nx (put (ks := [.inr "columns", .inr "rows", .inr "cell", .inr "level", .inr "width", .inr "height", .inr "step"]) (ev_tup (ev_args (nr rfl ev_c ev_c e8_) (ev_args (nr rfl ev_c q9 e9_) ev_args0 rfl) rfl)) rfl rfl (by decide +kernel) (by decide)) ?_
  refine cs_nx (put (ks := [.inr "columns", .inr "rows", .inr "cell", .inr "level", .inr "width", .inr "height", .inr "step", .inr "slope"]) (nr rfl ev_c ev_c e10_) rfl rfl (by decide +kernel) (by decide)) ?_
  refine cs_nx (put (ks := [.inr "columns", .inr "rows", .inr "cell", .inr "level", .inr "width", .inr "height", .inr "step", .inr "slope", .inr "slack"]) (nr rfl ev_c ev_c e11_) rfl rfl (by decide +kernel) (by decide)) ?_
  exact cs_retD (ev_varO rfl) rfl rfl
end
end W

set_option Elab.async false
set_option linter.all false
set_option maxRecDepth 100000
set_option maxHeartbeats 1000000
/-! law k01 -/
namespace W
open PySem L2 Mi
section
variable {z z1 z2 : Z} {a b A Bm cond : M D} {s s' sl : List Sl} {h : List D} {d : D} {x lo hi : Int} {r : Bool} {n w : Str} {v : V01}
def r1 (v : V01) : Bool := decide (1 ≤ v.columns) && decide (v.columns ≤ 64)
def r2 (v : V01) : Bool := decide (1 ≤ v.rows) && decide (v.rows ≤ 64)
def r3 (v : V01) : Bool := decide (3 ≤ v.cell) && decide (v.cell ≤ 1000)
def r4 (v : V01) : Bool := decide (1 ≤ v.level) && decide (v.level ≤ 1000)
def r5 (v : V01) : Bool := decide (0 ≤ v.width) && decide (v.width ≤ 4 * v.cell)
def r6 (v : V01) : Bool := decide (1 ≤ v.height) && decide (v.height ≤ 1000 * v.level)
def tallV (v : V01) : Int := -((-v.height) / v.level)
def r7 (v : V01) : Bool := decide (0 ≤ v.step) && decide (2 * (v.step / v.level) < tallV v)
def r8 (v : V01) : Bool := (decide (0 ≤ v.slope.1) && (decide (v.slope.1 ≤ v.slope.2) && decide (v.slope.2 ≤ 1000))) && decide (0 < v.slope.2)
def r9 (v : V01) : Bool := decide (0 ≤ v.slack) && decide (v.slack ≤ 1000)
def r10 (v : V01) : Bool := decide (2 ≤ v.tile) && decide (v.tile ≤ 16)
/-- the first that is wrong -/
def wrongV (v : V01) : Str := if r1 v = true then (if r2 v = true then (if r3 v = true then (if r4 v = true then (if r5 v = true then (if r6 v = true then (if r7 v = true then (if r8 v = true then (if r9 v = true then (if r10 v = true then "" else "tile") else "slack") else "slope") else "step") else "height") else "width") else "level") else "cell") else "rows") else "columns"
theorem or_r : (decide (x < lo) || decide (hi < x)) = !(decide (lo ≤ x) && decide (x ≤ hi)) := by
  by_cases h1 : lo ≤ x
  · by_cases h2 : x ≤ hi
    · rw [decide_eq_true h1, decide_eq_true h2, decide_eq_false (show ¬ x < lo by omega), decide_eq_false (show ¬ hi < x by omega)]; rfl
    · rw [decide_eq_true h1, decide_eq_false h2, decide_eq_false (show ¬ x < lo by omega), decide_eq_true (show hi < x by omega)]; rfl
  · rw [decide_eq_false h1, decide_eq_true (show x < lo by omega)]; rfl
theorem tw (ha : A z = some (.int x, z)) (hb : Bm z = some (.int hi, z)) : T.or (T.val (E.op O.lt A (E.c (.int lo)))) (T.val (E.op O.gt A Bm)) z = some (!(decide (lo ≤ x) && decide (x ≤ hi)), z) := by
  rw [← or_r]
  exact tt_or (tv (ev_lt ha ev_c)) fun _ => tv (ev_gt ha hb)
theorem cgE {t : M Bool} {cb : C} (ht : t ⟨sl, h⟩ = some (!r, ⟨sl, h⟩)) (k : r = true → ∃ s2, cb ⟨sl, h⟩ = some (.rt (.str w), ⟨s2, h⟩)) : ∃ s2, C.seq (C.ite t (C.ret (E.c (.str n))) C.skip) cb ⟨sl, h⟩ = some (.rt (.str (if r = true then w else n)), ⟨s2, h⟩) := by
  cases r with
  | true =>
    obtain ⟨s2, e⟩ := k rfl
    exact ⟨s2, cs_nx (cs_iteF ht cs_skip) e⟩
  | false => exact ⟨_, cs_rt (cs_iteT ht (cs_ret ev_c rfl))⟩
theorem div_q {x t q : Int} (ht : 0 < t) : x / t = q ↔ q * t ≤ x ∧ x < (q + 1) * t := by
  rw [← Int.le_ediv_iff_mul_le ht, ← Int.ediv_lt_iff_lt_mul ht]
  omega
theorem ceil_e {i u : Int} (hu : 0 < u) (hb : u ≤ 1000000) : p_ceiled i u = some (-((-i) / u)) := by
  unfold p_ceiled
  rw [div64 hu (by omega)]
  rfl
theorem counted_e {i u : Int} (hu : 0 < u) (hb : u ≤ 1000000) (hi : -1000000000 ≤ i ∧ i ≤ 1000000000) : p_law_counted i u = some (-((-i) / u)) := by
  have f1 := Int.ediv_mul_le i (show u ≠ 0 by omega)
  have f2 := Int.lt_ediv_add_one_mul_self i hu
  have q1 : -1000000000 ≤ i / u := (Int.le_ediv_iff_mul_le hu).mpr (by omega)
  have q2 : i / u ≤ 1000000000 := by
    have : i / u < 1000000001 := (Int.ediv_lt_iff_lt_mul hu).mpr (by omega)
    omega
  unfold p_law_counted
  rw [div64 hu (by omega)]
  show (Pl.mul (i / u) u).bind _ = _
  rw [mul64 ⟨by omega, by omega⟩ ⟨by omega, by omega⟩, Option.bind_some]
  have g1 : (i / u + 1) * u = i / u * u + u := by rw [Int.add_mul, Int.one_mul]
  by_cases c : i / u * u < i
  · rw [decide_eq_true c, if_pos rfl]
    show some (i / u + 1) = _
    congr 1
    have : (-i) / u = -(i / u + 1) := by
      rw [div_q hu, Int.neg_mul, Int.add_mul (-(i / u + 1)), Int.neg_mul]
      omega
    omega
  · rw [decide_eq_false c, if_neg (by decide)]
    show some (i / u) = _
    congr 1
    have : (-i) / u = -(i / u) := by
      rw [div_q hu, Int.add_mul, Int.neg_mul]
      omega
    omega
/-! ### first_wrong tells it -/
theorem wrong_ev (ok : VOk v) (h : List D) : m_law_first_wrong [eV v] h = some (.str (wrongV v), h) := by
  have ev0 : ∀ {sl : List Sl}, sl[0]? = some (.val (eV v)) → E.var 0 ⟨sl, h⟩ = some (eV v, ⟨sl, h⟩) := fun hz => ev_var hz
  have body : ∃ s2, b_law_first_wrong ⟨[.val (eV v), .no, .no], h⟩ = some (.rt (.str (wrongV v)), ⟨s2, h⟩) := by
    unfold b_law_first_wrong wrongV
    refine cgE (tw (rd0 (ev0 rfl)) ev_c) fun c1 => ?_
    refine cgE (tw (rd1 (ev0 rfl)) ev_c) fun c2 => ?_
    refine cgE (tw (rd2 (ev0 rfl)) ev_c) fun c3 => ?_
    refine cgE (tw (rd3 (ev0 rfl)) ev_c) fun c4 => ?_
    have k3 := ok.cell
    have k4 := ok.level
    have k5 := ok.width
    have k6 := ok.height
    have k7 := ok.step
    have l4 : 1 ≤ v.level := by
      unfold r4 at c4
      rw [Bool.and_eq_true] at c4
      exact of_decide_eq_true c4.1
    refine cgE (tw (rd4 (ev0 rfl)) (ev_mulP ev_c (rd2 (ev0 rfl)) (mul64 ⟨by omega, by omega⟩ ⟨by omega, by omega⟩))) fun c5 => ?_
    refine cgE (tw (rd5 (ev0 rfl)) (ev_mulP ev_c (rd3 (ev0 rfl)) (mul64 ⟨by omega, by omega⟩ ⟨by omega, by omega⟩))) fun c6 => ?_
    refine cgE (r := r7 v) ?_ fun c7 => ?_
    · have sq : -3000000 ≤ v.step / v.level ∧ v.step / v.level ≤ 3000000 := by
        have e1 : -1 ≤ v.step / v.level := (Int.le_ediv_iff_mul_le (by omega)).mpr (by omega)
        have e2 : v.step / v.level < 3000001 := (Int.ediv_lt_iff_lt_mul (by omega)).mpr (by omega)
        omega
      have er : (decide (v.step < 0) || decide (tallV v ≤ 2 * (v.step / v.level))) = !r7 v := by
        unfold r7
        by_cases a1 : 0 ≤ v.step
        · by_cases a2 : 2 * (v.step / v.level) < tallV v
          · rw [decide_eq_true a1, decide_eq_true a2, decide_eq_false (show ¬ v.step < 0 by omega), decide_eq_false (show ¬ tallV v ≤ 2 * (v.step / v.level) by omega)]; rfl
          · rw [decide_eq_true a1, decide_eq_false a2, decide_eq_false (show ¬ v.step < 0 by omega), decide_eq_true (show tallV v ≤ 2 * (v.step / v.level) by omega)]; rfl
        · rw [decide_eq_false a1, decide_eq_true (show v.step < 0 by omega)]; rfl
      rw [← er]
      refine tt_or (tv (ev_lt (rd6 (ev0 rfl)) ev_c)) fun _ => tv (ev_ge (ev_mulP ev_c (ev_divP (rd6 (ev0 rfl)) (rd3 (ev0 rfl)) (div64 (by omega) (by omega))) (mul64 ⟨by omega, by omega⟩ ⟨by omega, by omega⟩)) (ev_call (ev_args (rd5 (ev0 rfl)) (ev_args (rd3 (ev0 rfl)) ev_args0 rfl) rfl) (q_law_counted _ (counted_e (by omega) (by omega) ⟨by omega, by omega⟩))))
    have z1e : C.asg (G.tp [(G.nm 1), (G.nm 2)]) (E.op O.dix (E.var 0) (E.c (.str "slope"))) ⟨[.val (eV v), .no, .no], h⟩ = some (.nx, ⟨[.val (eV v), .val (.int v.slope.1), .val (.int v.slope.2)], h⟩) := cs_asg (rd7 (ev0 rfl)) rfl rfl
    suffices H : ∃ s2, C.seq st_law_first_wrong_9 (C.seq st_law_first_wrong_10 (C.seq st_law_first_wrong_11 (C.ret (E.c (.str ""))))) ⟨[.val (eV v), .val (.int v.slope.1), .val (.int v.slope.2)], h⟩ = some (.rt (.str (if r8 v = true then (if r9 v = true then (if r10 v = true then "" else "tile") else "slack") else "slope")), ⟨s2, h⟩) by
      obtain ⟨s2, e⟩ := H
      exact ⟨s2, cs_nx z1e e⟩
    refine cgE (r := r8 v) ?_ fun c8 => ?_
    · have er : (decide (v.slope.1 < 0) || (decide (v.slope.2 < v.slope.1) || (decide (v.slope.2 < 1) || decide (1000 < v.slope.2)))) = !r8 v := by
        unfold r8
        generalize v.slope.1 = p
        generalize v.slope.2 = q
        rw [Bool.eq_iff_iff]
        simp only [Bool.or_eq_true, decide_eq_true_eq, Bool.not_eq_true', Bool.and_eq_false_iff, decide_eq_false_iff_not]
        omega
      rw [← er]
      exact tt_or (tv (ev_lt (ev_var rfl) ev_c)) fun _ => tt_or (tv (ev_gt (ev_var rfl) (ev_var rfl))) fun _ => tt_or (tv (ev_lt (ev_var rfl) ev_c)) fun _ => tv (ev_gt (ev_var rfl) ev_c)
    refine cgE (tw (rd8 (ev0 rfl)) ev_c) fun c9 => ?_
    refine cgE (tw (rd9 (ev0 rfl)) ev_c) fun c10 => ?_
    exact ⟨_, cs_ret ev_c rfl⟩
  obtain ⟨s2, e⟩ := body
  exact fn_rtH rfl e
/-! ### Settings raises it -/
def stV (v : V01) : PSettings := ⟨tallV v, v.step / v.level, v.columns, v.rows, v.cell, v.level, v.width, v.height, v.step, v.slope, v.slack, v.tile, -((-v.width) / v.cell)⟩
def InitR (b : CE) (z : Z) (h : List D) (st : PSettings) (w : Str) : Prop := (w = "" → ∃ s2, b z = some (.fl .nx, ⟨s2, h ++ [eSettings st]⟩)) ∧ (w ≠ "" → ∃ s2 fs, b z = some (.ex ⟨"SettingsError", "name", w⟩, ⟨s2, h ++ [.ins "Settings" fs]⟩))
theorem req_x (r : Bool) (n : Str) (h : List D) : mx_require [.bl r, .str n] h = some (if r = true then .inl .non else .inr ⟨"SettingsError", "name", n⟩, h) := by
  have e : bx_require ⟨slots 2 [.bl r, .str n], h⟩ = _ := ce_guard1 (tt_not (tt_tru (ev_var (n := 0) (z := ⟨slots 2 [.bl r, .str n], h⟩) rfl) rfl)) (ev_var (n := 1) rfl)
  cases r with
  | true => exact fnE_nx rfl (e.trans (if_neg (by decide)))
  | false => exact fnE_x rfl (e.trans (if_pos rfl))
section
variable {fs : List (Str × D)} {rest : CE} {st : PSettings} {m : M D} {f : Str} {ks : List Str}
theorem xgE (hc : cond ⟨sl, h ++ [.ins "Settings" fs]⟩ = some (.bl r, ⟨sl, h ++ [.ins "Settings" fs]⟩)) (hn : n ≠ "") (k : r = true → InitR rest ⟨sl, h ++ [.ins "Settings" fs]⟩ h st w) : InitR (CE.seq (CE.drop (EE.call mx_require [cond, E.c (.str n)])) rest) ⟨sl, h ++ [.ins "Settings" fs]⟩ h st (if r = true then w else n) := by
  have e := ee_call (ev_args hc (ev_args (ev_c (d := .str n)) ev_args0 rfl) rfl) (req_x r n _)
  cases r with
  | true =>
    obtain ⟨k1, k2⟩ := k rfl
    refine ⟨fun hw => ?_, fun hw => ?_⟩
    · obtain ⟨s2, q⟩ := k1 hw
      exact ⟨s2, (ce_seqN (ce_dropV e)).trans q⟩
    · obtain ⟨s2, fs, q⟩ := k2 hw
      exact ⟨s2, fs, (ce_seqN (ce_dropV e)).trans q⟩
  | false =>
    refine ⟨fun hw => absurd hw hn, fun _ => ⟨_, _, ce_seqX (ce_dropX e)⟩⟩
theorem fs_e (hm : m ⟨sl, h ++ [.ins "Settings" fs]⟩ = some (d, ⟨sl, h ++ [.ins "Settings" fs]⟩)) (hp : isPure d = true) (hi : sl[0]? = some (.val (.ref h.length))) (hk : fs.map Prod.fst = ks) (hn : ks.contains f = false) (hl : ks.length < 1000) : C.fsetC "Settings" f (E.var 0) m ⟨sl, h ++ [.ins "Settings" fs]⟩ = some (.nx, ⟨sl, h ++ [.ins "Settings" (fs ++ [(f, d)])]⟩) := by
  subst hk
  unfold C.fsetC
  rw [bnd_of hm, bnd_of (ev_var hi)]
  dsimp only
  rw [if_pos hp, List.getElem?_append_right (Nat.le_refl _), Nat.sub_self]
  dsimp only [List.getElem?_cons_zero]
  rw [if_pos ⟨rfl, by rw [List.length_map] at hl; exact hl⟩, putFD_new hn, List.set_append_right _ _ (Nat.le_refl _), Nat.sub_self]
  rfl
theorem fsE (hm : m ⟨sl, h ++ [.ins "Settings" fs]⟩ = some (d, ⟨sl, h ++ [.ins "Settings" fs]⟩)) (hp : isPure d = true) (hi : sl[0]? = some (.val (.ref h.length))) (hk : fs.map Prod.fst = ks) (hn : ks.contains f = false) (hl : ks.length < 1000) (k : InitR rest ⟨sl, h ++ [.ins "Settings" (fs ++ [(f, d)])]⟩ h st w) : InitR (CE.seq (CE.lift (C.fsetC "Settings" f (E.var 0) m)) rest) ⟨sl, h ++ [.ins "Settings" fs]⟩ h st w := by
  have e := ce_lift (fs_e hm hp hi hk hn hl)
  exact ⟨fun hw => (k.1 hw).imp fun s2 q => (ce_seqN e).trans q, fun hw => (k.2 hw).imp fun s2 ⟨fs, q⟩ => ⟨fs, (ce_seqN e).trans q⟩⟩
end
theorem init_ev (ok : VOk v) (h : List D) : InitR bx_Settings___init__ ⟨[.val (.ref h.length), .val (eI v.columns), .val (eI v.rows), .val (eI v.cell), .val (eI v.level), .val (eI v.width), .val (eI v.height), .val (eI v.step), .val (e2 eI eI v.slope), .val (eI v.slack), .val (eI v.tile)], h ++ [.ins "Settings" []]⟩ h (stV v) (wrongV v) := by
  have k3 := ok.cell
  have k4 := ok.level
  have k5 := ok.width
  have k6 := ok.height
  have k7 := ok.step
  unfold bx_Settings___init__ wrongV
  refine xgE (ev_chain ev_c (ev_var rfl) rfl (fun _ => ev_c) (fun _ => rfl)) (by decide +kernel) fun c1 => ?_
  refine xgE (ev_chain ev_c (ev_var rfl) rfl (fun _ => ev_c) (fun _ => rfl)) (by decide +kernel) fun c2 => ?_
  refine xgE (ev_chain ev_c (ev_var rfl) rfl (fun _ => ev_c) (fun _ => rfl)) (by decide +kernel) fun c3 => ?_
  refine xgE (ev_chain ev_c (ev_var rfl) rfl (fun _ => ev_c) (fun _ => rfl)) (by decide +kernel) fun c4 => ?_
  have l3 : 3 ≤ v.cell := by
    unfold r3 at c3
    rw [Bool.and_eq_true] at c3
    exact of_decide_eq_true c3.1
  have l4 : 1 ≤ v.level := by
    unfold r4 at c4
    rw [Bool.and_eq_true] at c4
    exact of_decide_eq_true c4.1
  refine xgE (ev_chain ev_c (ev_var rfl) rfl (fun _ => ev_mulP ev_c (ev_var rfl) (mul64 ⟨by omega, by omega⟩ ⟨by omega, by omega⟩)) (fun _ => rfl)) (by decide +kernel) fun c5 => ?_
  refine xgE (ev_chain ev_c (ev_var rfl) rfl (fun _ => ev_mulP ev_c (ev_var rfl) (mul64 ⟨by omega, by omega⟩ ⟨by omega, by omega⟩)) (fun _ => rfl)) (by decide +kernel) fun c6 => ?_
  refine fsE (ks := []) (ev_call (ev_args (ev_var rfl) (ev_args (ev_var rfl) ev_args0 rfl) rfl) (q_ceiled _ (ceil_e (by omega) (by omega)))) rfl rfl rfl (by decide +kernel) (by decide) ?_
  refine fsE (ks := ["tall"]) (ev_divP (ev_var rfl) (ev_var rfl) (div64 (by omega) (by omega))) rfl rfl rfl (by decide +kernel) (by decide) ?_
  have sq : -3000000 ≤ v.step / v.level ∧ v.step / v.level ≤ 3000000 := by
    have e1 : -1 ≤ v.step / v.level := (Int.le_ediv_iff_mul_le (by omega)).mpr (by omega)
    have e2 : v.step / v.level < 3000001 := (Int.ediv_lt_iff_lt_mul (by omega)).mpr (by omega)
    omega
  refine xgE (ev_and (ev_ge (ev_var rfl) ev_c) fun _ => ev_lt (ev_mulP ev_c (ev_fldN (i := 0) rfl (lookup_atK (ks := ["tall", "rise"]) (i := 1) rfl rfl (by decide +kernel))) (mul64 ⟨by omega, by omega⟩ ⟨by omega, by omega⟩)) (ev_fldN (i := 0) rfl (lookup_atK (ks := ["tall", "rise"]) (i := 0) rfl rfl (by decide +kernel)))) (by decide +kernel) fun c7 => ?_
  refine xgE (ev_and (ev_chain3 ev_c (ev_ix (ev_var rfl) ev_c rfl rfl) rfl (ev_ix (ev_var rfl) ev_c rfl rfl) rfl ev_c rfl) fun _ => (ev_gt (ev_ix (ev_var rfl) ev_c rfl rfl) ev_c)) (by decide +kernel) fun c8 => ?_
  refine xgE (ev_chain ev_c (ev_var rfl) rfl (fun _ => ev_c) (fun _ => rfl)) (by decide +kernel) fun c9 => ?_
  refine xgE (ev_chain ev_c (ev_var rfl) rfl (fun _ => ev_c) (fun _ => rfl)) (by decide +kernel) fun c10 => ?_
  refine fsE (ks := ["tall", "rise"]) (ev_var rfl) rfl rfl rfl (by decide +kernel) (by decide) ?_
  refine fsE (ks := ["tall", "rise", "columns"]) (ev_var rfl) rfl rfl rfl (by decide +kernel) (by decide) ?_
  refine fsE (ks := ["tall", "rise", "columns", "rows"]) (ev_var rfl) rfl rfl rfl (by decide +kernel) (by decide) ?_
  refine fsE (ks := ["tall", "rise", "columns", "rows", "cell"]) (ev_var rfl) rfl rfl rfl (by decide +kernel) (by decide) ?_
  refine fsE (ks := ["tall", "rise", "columns", "rows", "cell", "level"]) (ev_var rfl) rfl rfl rfl (by decide +kernel) (by decide) ?_
  refine fsE (ks := ["tall", "rise", "columns", "rows", "cell", "level", "width"]) (ev_var rfl) rfl rfl rfl (by decide +kernel) (by decide) ?_
  refine fsE (ks := ["tall", "rise", "columns", "rows", "cell", "level", "width", "height"]) (ev_var rfl) rfl rfl rfl (by decide +kernel) (by decide) ?_
  refine fsE (ks := ["tall", "rise", "columns", "rows", "cell", "level", "width", "height", "step"]) (ev_blt1 (ev_var rfl) (lf_tuple rfl rfl)) rfl rfl rfl (by decide +kernel) (by decide) ?_
  refine fsE (ks := ["tall", "rise", "columns", "rows", "cell", "level", "width", "height", "step", "slope"]) (ev_var rfl) rfl rfl rfl (by decide +kernel) (by decide) ?_
  refine fsE (ks := ["tall", "rise", "columns", "rows", "cell", "level", "width", "height", "step", "slope", "slack"]) (ev_var rfl) rfl rfl rfl (by decide +kernel) (by decide) ?_
  exact ⟨fun _ => ⟨_, ce_lift (fs_e (ks := ["tall", "rise", "columns", "rows", "cell", "level", "width", "height", "step", "slope", "slack", "tile"]) (ev_call (ev_args (ev_var rfl) (ev_args (ev_var rfl) ev_args0 rfl) rfl) (q_ceiled _ (ceil_e (by omega) (by omega)))) rfl rfl rfl (by decide +kernel) (by decide))⟩, fun h => absurd rfl h⟩
/-! ### what is made -/
def madeV (v : V01) : D := if wrongV v = "" then eSettings (stV v) else .tup [.str "error", .str (wrongV v)]
theorem made_ev (ok : VOk v) (h : List D) : m_law_made [eV v] h = some (madeV v, h) := by
  have ev0 : E.var 0 ⟨[.val (eV v), .no], h⟩ = some (eV v, ⟨[.val (eV v), .no], h⟩) := ev_var rfl
  have ha : E.args [(E.op O.dix (E.var 0) (E.c (.str "columns"))), (E.op O.dix (E.var 0) (E.c (.str "rows"))), (E.op O.dix (E.var 0) (E.c (.str "cell"))), (E.op O.dix (E.var 0) (E.c (.str "level"))), (E.op O.dix (E.var 0) (E.c (.str "width"))), (E.op O.dix (E.var 0) (E.c (.str "height"))), (E.op O.dix (E.var 0) (E.c (.str "step"))), (E.op O.dix (E.var 0) (E.c (.str "slope"))), (E.op O.dix (E.var 0) (E.c (.str "slack"))), (E.op O.dix (E.var 0) (E.c (.str "tile")))] ⟨[.val (eV v), .no], h⟩ = some ([eI v.columns, eI v.rows, eI v.cell, eI v.level, eI v.width, eI v.height, eI v.step, e2 eI eI v.slope, eI v.slack, eI v.tile], ⟨[.val (eV v), .no], h⟩) :=
    ev_args (rd0 ev0) (ev_args (rd1 ev0) (ev_args (rd2 ev0) (ev_args (rd3 ev0) (ev_args (rd4 ev0) (ev_args (rd5 ev0) (ev_args (rd6 ev0) (ev_args (rd7 ev0) (ev_args (rd8 ev0) (ev_args (rd9 ev0) ev_args0 rfl) rfl) rfl) rfl) rfl) rfl) rfl) rfl) rfl) rfl
  obtain ⟨k1, k2⟩ := init_ev ok h
  have body : ∃ s2, b_law_made ⟨[.val (eV v), .no], h⟩ = some (.rt (madeV v), ⟨s2, h⟩) := by
    unfold madeV
    by_cases hw : wrongV v = ""
    · rw [if_pos hw]
      obtain ⟨s2, e⟩ := k1 hw
      have e2 : mx_Settings___init__ (.ref h.length :: [eI v.columns, eI v.rows, eI v.cell, eI v.level, eI v.width, eI v.height, eI v.step, e2 eI eI v.slope, eI v.slack, eI v.tile]) (h ++ [.ins "Settings" []]) = some (.inl .non, h ++ [eSettings (stV v)]) := by
        show fnE 11 11 bx_Settings___init__ _ _ = _
        refine fnE_nx (z := ⟨s2, h ++ [eSettings (stV v)]⟩) rfl ?_
        exact e
      have e3 : mkV h (some (.non, h ++ [eSettings (stV v)])) = some (eSettings (stV v)) := by
        unfold mkV
        simp only [List.getElem?_append_right (Nat.le_refl _), Nat.sub_self, List.getElem?_cons_zero]
        rw [if_pos ⟨trivial, rfl⟩]
      refine ⟨_, c_tryV (f := .rt (eSettings (stV v))) (z1 := ⟨[.val (eV v), .no], h⟩) ?_⟩
      unfold CE.ret EE.mk
      rw [ha]
      dsimp only
      rw [e2]
      dsimp only
      rw [e3]
      rfl
    · rw [if_neg hw]
      obtain ⟨s2, fs, e⟩ := k2 hw
      have e2 : mx_Settings___init__ (.ref h.length :: [eI v.columns, eI v.rows, eI v.cell, eI v.level, eI v.width, eI v.height, eI v.step, e2 eI eI v.slope, eI v.slack, eI v.tile]) (h ++ [.ins "Settings" []]) = some (.inr ⟨"SettingsError", "name", wrongV v⟩, h ++ [.ins "Settings" fs]) := by
        show fnE 11 11 bx_Settings___init__ _ _ = _
        refine fnE_x (z := ⟨s2, h ++ [.ins "Settings" fs]⟩) rfl ?_
        exact e
      refine ⟨_, c_tryX (x := ⟨"SettingsError", "name", wrongV v⟩) (z1 := ⟨[.val (eV v), .no], h⟩) ?_ (by show 1 < 2; decide) (if_pos ⟨rfl, rfl⟩) (cs_ret (ev_tup (ev_args ev_c (ev_args ev_c ev_args0 rfl) rfl)) rfl)⟩
      unfold CE.ret EE.mk
      rw [ha]
      dsimp only
      rw [e2]
      dsimp only
      rw [if_pos ⟨_, _, rfl⟩]
  obtain ⟨s2, e⟩ := body
  exact fn_rtH rfl e
/-! ### the law -/
theorem eqP_refl {d : D} {p : PyData} (hp : O.toP d = some p) (hc : p.canLay0 = true) (hd : p.depth ≤ 64) (hq : PyData.eqv p p = true) (hv : isVal d = true) (z : Z) : O.eqP d d z = some true := by
  have e0 : O.eqP d d z = O.eqD d d z := by
    revert hv
    intro hv
    cases d <;> first | rfl | cases hv
  rw [e0]
  unfold O.eqD
  rw [snap_val hv, hp]
  dsimp only
  rw [if_pos ⟨by unfold SeqAt.shaped; rw [hc, decide_eq_true hd]; rfl, by unfold SeqAt.shaped; rw [hc, decide_eq_true hd]; rfl⟩, hq]
theorem wrong_in (v : V01) : wrongV v = "" ∨ wrongV v ∈ (["tile", "slack", "slope", "step", "height", "width", "level", "cell", "rows", "columns"] : List Str) := by
  unfold wrongV
  repeat' split
  all_goals first | exact .inl rfl | exact .inr (by simp)
theorem err_eq (v : V01) (hw : wrongV v ≠ "") (z : Z) : O.eqP (.tup [.str "error", .str (wrongV v)]) (.tup [.str "error", .str (wrongV v)]) z = some true := by
  have h := (wrong_in v).resolve_left hw
  have key : ∀ w ∈ (["tile", "slack", "slope", "step", "height", "width", "level", "cell", "rows", "columns"] : List Str), (PyData.str w).canLay0 = true := by decide +kernel
  refine eqP_refl (p := .tuple [.str "error", .str (wrongV v)]) rfl ?_ ?_ ?_ rfl z
  · have h1 := key _ h
    have h2 : (PyData.str "error").canLay0 = true := by decide +kernel
    simp only [PyData.canLay0, PyData.canLayAll0, Bool.and_eq_true] at h1 h2 ⊢
    simp_all
  · simp [PyData.depth, PyData.depthAll]
  · simp [PyData.eqv, PyData.eqvAll]
abbrev toldL (v : V01) : List D := [eI v.columns, eI v.rows, eI v.cell, eI v.level, eI v.width, eI v.height, eI v.step, e2 eI eI v.slope, eI v.slack, eI v.tile]
theorem told_eq (v : V01) (z : Z) : O.eqP (.lst (toldL v)) (.lst (toldL v)) z = some true := by
  refine eqP_refl (p := .list [.int v.columns, .int v.rows, .int v.cell, .int v.level, .int v.width, .int v.height, .int v.step, .tuple [.int v.slope.1, .int v.slope.2], .int v.slack, .int v.tile]) rfl ?_ ?_ ?_ rfl z
  · simp [PyData.canLay0, PyData.canLayAll0]
  · simp [PyData.depth, PyData.depthAll]
  · simp [PyData.eqv, PyData.eqvAll]
theorem tri_eq (a b c : Int) (z : Z) : O.eqP (.lst [.int a, .int b, .int c]) (.lst [.int a, .int b, .int c]) z = some true := by
  refine eqP_refl (p := .list [.int a, .int b, .int c]) rfl ?_ ?_ ?_ rfl z
  · simp [PyData.canLay0, PyData.canLayAll0]
  · simp [PyData.depth, PyData.depthAll]
  · simp [PyData.eqv, PyData.eqvAll]
theorem rd_key {z : Z} {kvs : List (Key × D)} {ks : List Key} {i : Nat} {k : Str} {d : D} (h2 : z.s[2]? = some (.val (.dk kvs))) (h8 : z.s[8]? = some (.val (.str k))) (hk : kvs.map Prod.fst = ks) (hi : kvs[i]? = some (.inr k, d)) (hn : (ks.take i).all (fun q => !decide (q = .inr k)) = true) : E.op O.dix (E.var 2) (E.var 8) z = some (d, z) := ev_dix (ev_var h2) (ev_var h8) rfl (dg_at hk hi hn)
theorem loop_ev (v : V01) (ys : List D) (a0 a1 a3 a4 a5 a6 a7 : Sl) (h : List D) : N.loop ⟨ys, none⟩ (G.nm 8) [8] (ret true) (E.op O.dix (E.var 2) (E.var 8)) [.str "columns", .str "rows", .str "cell", .str "level", .str "width", .str "height", .str "step", .str "slope", .str "slack", .str "tile"] [] ⟨[a0, a1, .val (eV v), a3, a4, a5, a6, a7, .no, .no], h⟩ = some (toldL v, ⟨[a0, a1, .val (eV v), a3, a4, a5, a6, a7, .no, .no], h⟩) := by
  refine nl_tN (z1 := ⟨[a0, a1, .val (eV v), a3, a4, a5, a6, a7, .val (.str "columns"), .no], h⟩) (s4 := [a0, a1, .val (eV v), a3, a4, a5, a6, a7, .no, .no]) (acc' := [eI v.columns]) rfl rfl rfl (rd_key (i := 0) (ks := keysV) rfl rfl rfl rfl (by decide +kernel)) rfl rfl rfl ?_
  refine nl_tN (z1 := ⟨[a0, a1, .val (eV v), a3, a4, a5, a6, a7, .val (.str "rows"), .no], h⟩) (s4 := [a0, a1, .val (eV v), a3, a4, a5, a6, a7, .no, .no]) (acc' := [eI v.columns, eI v.rows]) rfl rfl rfl (rd_key (i := 1) (ks := keysV) rfl rfl rfl rfl (by decide +kernel)) rfl rfl rfl ?_
  refine nl_tN (z1 := ⟨[a0, a1, .val (eV v), a3, a4, a5, a6, a7, .val (.str "cell"), .no], h⟩) (s4 := [a0, a1, .val (eV v), a3, a4, a5, a6, a7, .no, .no]) (acc' := [eI v.columns, eI v.rows, eI v.cell]) rfl rfl rfl (rd_key (i := 2) (ks := keysV) rfl rfl rfl rfl (by decide +kernel)) rfl rfl rfl ?_
  refine nl_tN (z1 := ⟨[a0, a1, .val (eV v), a3, a4, a5, a6, a7, .val (.str "level"), .no], h⟩) (s4 := [a0, a1, .val (eV v), a3, a4, a5, a6, a7, .no, .no]) (acc' := [eI v.columns, eI v.rows, eI v.cell, eI v.level]) rfl rfl rfl (rd_key (i := 3) (ks := keysV) rfl rfl rfl rfl (by decide +kernel)) rfl rfl rfl ?_
  refine nl_tN (z1 := ⟨[a0, a1, .val (eV v), a3, a4, a5, a6, a7, .val (.str "width"), .no], h⟩) (s4 := [a0, a1, .val (eV v), a3, a4, a5, a6, a7, .no, .no]) (acc' := [eI v.columns, eI v.rows, eI v.cell, eI v.level, eI v.width]) rfl rfl rfl (rd_key (i := 4) (ks := keysV) rfl rfl rfl rfl (by decide +kernel)) rfl rfl rfl ?_
  refine nl_tN (z1 := ⟨[a0, a1, .val (eV v), a3, a4, a5, a6, a7, .val (.str "height"), .no], h⟩) (s4 := [a0, a1, .val (eV v), a3, a4, a5, a6, a7, .no, .no]) (acc' := [eI v.columns, eI v.rows, eI v.cell, eI v.level, eI v.width, eI v.height]) rfl rfl rfl (rd_key (i := 5) (ks := keysV) rfl rfl rfl rfl (by decide +kernel)) rfl rfl rfl ?_
  refine nl_tN (z1 := ⟨[a0, a1, .val (eV v), a3, a4, a5, a6, a7, .val (.str "step"), .no], h⟩) (s4 := [a0, a1, .val (eV v), a3, a4, a5, a6, a7, .no, .no]) (acc' := [eI v.columns, eI v.rows, eI v.cell, eI v.level, eI v.width, eI v.height, eI v.step]) rfl rfl rfl (rd_key (i := 6) (ks := keysV) rfl rfl rfl rfl (by decide +kernel)) rfl rfl rfl ?_
  refine nl_tN (z1 := ⟨[a0, a1, .val (eV v), a3, a4, a5, a6, a7, .val (.str "slope"), .no], h⟩) (s4 := [a0, a1, .val (eV v), a3, a4, a5, a6, a7, .no, .no]) (acc' := [eI v.columns, eI v.rows, eI v.cell, eI v.level, eI v.width, eI v.height, eI v.step, e2 eI eI v.slope]) rfl rfl rfl (rd_key (i := 7) (ks := keysV) rfl rfl rfl rfl (by decide +kernel)) rfl rfl rfl ?_
  refine nl_tN (z1 := ⟨[a0, a1, .val (eV v), a3, a4, a5, a6, a7, .val (.str "slack"), .no], h⟩) (s4 := [a0, a1, .val (eV v), a3, a4, a5, a6, a7, .no, .no]) (acc' := [eI v.columns, eI v.rows, eI v.cell, eI v.level, eI v.width, eI v.height, eI v.step, e2 eI eI v.slope, eI v.slack]) rfl rfl rfl (rd_key (i := 8) (ks := keysV) rfl rfl rfl rfl (by decide +kernel)) rfl rfl rfl ?_
  refine nl_tN (z1 := ⟨[a0, a1, .val (eV v), a3, a4, a5, a6, a7, .val (.str "tile"), .no], h⟩) (s4 := [a0, a1, .val (eV v), a3, a4, a5, a6, a7, .no, .no]) (acc' := [eI v.columns, eI v.rows, eI v.cell, eI v.level, eI v.width, eI v.height, eI v.step, e2 eI eI v.slope, eI v.slack, eI v.tile]) rfl rfl rfl (rd_key (i := 9) (ks := keysV) rfl rfl rfl rfl (by decide +kernel)) rfl rfl rfl ?_
  rfl
theorem x1 (v : V01) (a0 a1 a3 a4 a5 a6 a7 : Sl) (h : List D) : N.keysL (E.var 2) ⟨[a0, a1, .val (eV v), a3, a4, a5, a6, a7, .no, .no], h⟩ = some ((kvV v).map fun e => dkey e.1, ⟨[a0, a1, .val (eV v), a3, a4, a5, a6, a7, .no, .no], h⟩) := by
  exact ev_keysL (ev_var rfl)
theorem x2 (v : V01) (a0 a1 a3 a4 a5 a6 a7 : Sl) (h : List D) : E.frz (N.keysL (E.var 2)) ⟨[a0, a1, .val (eV v), a3, a4, a5, a6, a7, .no, .no], h⟩ = some (.lst ((kvV v).map fun e => dkey e.1), ⟨[a0, a1, .val (eV v), a3, a4, a5, a6, a7, .no, .no], h⟩) := by
  exact ev_frz (x1 v a0 a1 a3 a4 a5 a6 a7 h)
theorem x3 (v : V01) (a0 a1 a3 a4 a5 a6 a7 : Sl) (h : List D) : I.seqC (E.frz (N.keysL (E.var 2))) ⟨[a0, a1, .val (eV v), a3, a4, a5, a6, a7, .no, .no], h⟩ = some (⟨(kvV v).map fun e => dkey e.1, none⟩, ⟨[a0, a1, .val (eV v), a3, a4, a5, a6, a7, .no, .no], h⟩) := by
  exact ev_seqC (x2 v a0 a1 a3 a4 a5 a6 a7 h) (by generalize ((kvV v).map fun e => dkey e.1) = xs; rfl)
theorem x4 (v : V01) : ((kvV v).map fun e => dkey e.1).length ≤ szl := by
  rw [List.length_map]
  have : (kvV v).length = 10 := rfl
  rw [this]
  decide
theorem x5 (v : V01) (a0 a1 a3 a4 a5 a6 a7 : Sl) (h : List D) : N.loop ⟨(kvV v).map fun e => dkey e.1, none⟩ (G.nm 8) [8] (ret true) (E.op O.dix (E.var 2) (E.var 8)) ((kvV v).map fun e => dkey e.1) [] ⟨N.wipe [a0, a1, .val (eV v), a3, a4, a5, a6, a7, .no, .no] [8], h⟩ = some (toldL v, ⟨[a0, a1, .val (eV v), a3, a4, a5, a6, a7, .no, .no], h⟩) := by
  generalize hys : (⟨(kvV v).map fun e => dkey e.1, none⟩ : Mi.It) = it
  have e : ((kvV v).map fun e => dkey e.1) = [.str "columns", .str "rows", .str "cell", .str "level", .str "width", .str "height", .str "step", .str "slope", .str "slack", .str "tile"] := rfl
  have ew : N.wipe [a0, a1, .val (eV v), a3, a4, a5, a6, a7, .no, .no] [8] = [a0, a1, .val (eV v), a3, a4, a5, a6, a7, .no, .no] := rfl
  rw [ew, ← hys]
  generalize hy2 : (⟨(kvV v).map fun e => dkey e.1, none⟩ : Mi.It) = it2
  rw [e, ← hy2]
  exact loop_ev v _ a0 a1 a3 a4 a5 a6 a7 h
theorem x6 (v : V01) (a0 a1 a3 a4 a5 a6 a7 : Sl) : N.rest [a0, a1, .val (eV v), a3, a4, a5, a6, a7, .no, .no] [a0, a1, .val (eV v), a3, a4, a5, a6, a7, .no, .no] [8] = [a0, a1, .val (eV v), a3, a4, a5, a6, a7, .no, .no] := rfl
theorem comp_ev (v : V01) (a0 a1 a3 a4 a5 a6 a7 : Sl) (h : List D) : N.comp (I.seqC (E.frz (N.keysL (E.var 2)))) (G.nm 8) [8] (ret true) (E.op O.dix (E.var 2) (E.var 8)) ⟨[a0, a1, .val (eV v), a3, a4, a5, a6, a7, .no, .no], h⟩ = some (toldL v, ⟨[a0, a1, .val (eV v), a3, a4, a5, a6, a7, .no, .no], h⟩) := by
  unfold N.comp
  rw [bnd_of (x3 v a0 a1 a3 a4 a5 a6 a7 h)]
  dsimp only
  rw [if_pos ⟨x4 v, rfl⟩, x5 v a0 a1 a3 a4 a5 a6 a7 h]
  dsimp only
  rw [x6]
theorem cat_ev (v : V01) {a0 a1 a2 a3 a5 a6 a8 a9 : Sl} (h : List D) : N.cat (E.var 7) (E.frz (N.disp [(E.fldC "Settings" "tile" (E.var 4))])) ⟨[a0, a1, a2, a3, .val (eSettings (stV v)), a5, a6, .val (.lst [eI v.columns, eI v.rows, eI v.cell, eI v.level, eI v.width, eI v.height, eI v.step, e2 eI eI v.slope, eI v.slack]), a8, a9], h⟩ = some (toldL v, ⟨[a0, a1, a2, a3, .val (eSettings (stV v)), a5, a6, .val (.lst [eI v.columns, eI v.rows, eI v.cell, eI v.level, eI v.width, eI v.height, eI v.step, e2 eI eI v.slope, eI v.slack]), a8, a9], h⟩) := by
  have hl : [eI v.columns, eI v.rows, eI v.cell, eI v.level, eI v.width, eI v.height, eI v.step, e2 eI eI v.slope, eI v.slack].length + [eI (stV v).tile].length < szl := by
    have : [eI v.columns, eI v.rows, eI v.cell, eI v.level, eI v.width, eI v.height, eI v.step, e2 eI eI v.slope, eI v.slack].length + [eI (stV v).tile].length = 10 := rfl
    rw [this]
    decide
  exact ev_cat (ev_var rfl) (ev_frz (ev_disp (ev_args (ev_fldC (ev_var rfl) (fl_Settings_tile (stV v))) ev_args0 rfl))) rfl rfl rfl rfl hl
theorem law_true : ∀ ns : List Int, ns.length ≤ 63 → ∃ h', m_law [.scr (ns.map D.int)] [] = some (.bl true, h') := by
  intro ns hl
  obtain ⟨s0, e0⟩ := Dr.state_ev ns hl
  obtain ⟨v, s1, ok, e1⟩ := draws_ev s0 []
  obtain ⟨⟨nu, s2⟩, e2_, n0, n1⟩ := draw_t (s := s1) (many := 1000) (by decide) (by decide)
  obtain ⟨⟨un, s3⟩, e3_, u0, u1⟩ := draw_t (s := s2) (many := 30) (by decide) (by decide)
  dsimp only at n0 n1 u0 u1
  have k3 := ok.cell
  have k4 := ok.level
  have k5 := ok.width
  have k6 := ok.height
  have k7 := ok.step
  refine Ends.fn rfl ?_
  unfold b_law
  refine Ends.nx (cs_setN (s' := [.val (.scr (ns.map D.int)), .val (.ref 1), .no, .no, .no, .no, .no, .no, .no, .no]) (h := stT s0 []) (ev_call (ev_args (ev_var rfl) ev_args0 rfl) e0) rfl rfl) ?_
  refine Ends.nx (cs_setN (s' := [.val (.scr (ns.map D.int)), .val (.ref 1), .val (eV v), .no, .no, .no, .no, .no, .no, .no]) (h := stT s1 []) (ev_call (ev_args (ev_var rfl) ev_args0 rfl) e1) rfl rfl) ?_
  refine Ends.nx (cs_setN (s' := [.val (.scr (ns.map D.int)), .val (.ref 1), .val (eV v), .val (.str (wrongV v)), .no, .no, .no, .no, .no, .no]) (h := stT s1 []) (ev_call (ev_args (ev_var rfl) ev_args0 rfl) (wrong_ev ok _)) rfl rfl) ?_
  have pm : isPure (madeV v) = true := by unfold madeV; split <;> rfl
  refine Ends.nx (cs_setN (s' := [.val (.scr (ns.map D.int)), .val (.ref 1), .val (eV v), .val (.str (wrongV v)), .val (madeV v), .no, .no, .no, .no, .no]) (h := stT s1 []) (ev_call (ev_args (ev_var rfl) ev_args0 rfl) (made_ev ok _)) pm rfl) ?_
  refine Ends.nx (cs_setN (s' := [.val (.scr (ns.map D.int)), .val (.ref 1), .val (eV v), .val (.str (wrongV v)), .val (madeV v), .val (.int (nu - 500)), .no, .no, .no, .no]) (h := stT s2 []) (ev_sub (ev_call (ev_args (ev_var rfl) (ev_args ev_c ev_args0 rfl) rfl) (q_law_draw [] e2_)) ev_c) rfl rfl) ?_
  refine Ends.nx (cs_setN (s' := [.val (.scr (ns.map D.int)), .val (.ref 1), .val (eV v), .val (.str (wrongV v)), .val (madeV v), .val (.int (nu - 500)), .val (.int (1 + un)), .no, .no, .no]) (h := stT s3 []) (ev_add ev_c (ev_call (ev_args (ev_var rfl) (ev_args ev_c ev_args0 rfl) rfl) (q_law_draw [] e3_))) rfl rfl) ?_
  have t7 : T.val (E.op O.ne (E.call m_ceiled [(E.var 5), (E.var 6)]) (E.call m_law_counted [(E.var 5), (E.var 6)])) ⟨[.val (.scr (ns.map D.int)), .val (.ref 1), .val (eV v), .val (.str (wrongV v)), .val (madeV v), .val (.int (nu - 500)), .val (.int (1 + un)), .no, .no, .no], stT s3 []⟩ = some (false, ⟨[.val (.scr (ns.map D.int)), .val (.ref 1), .val (eV v), .val (.str (wrongV v)), .val (madeV v), .val (.int (nu - 500)), .val (.int (1 + un)), .no, .no, .no], stT s3 []⟩) := by
    have q1 := ev_call (z := ⟨[.val (.scr (ns.map D.int)), .val (.ref 1), .val (eV v), .val (.str (wrongV v)), .val (madeV v), .val (.int (nu - 500)), .val (.int (1 + un)), .no, .no, .no], stT s3 []⟩) (as := [E.var 5, E.var 6]) (ev_args (ev_var rfl) (ev_args (ev_var rfl) ev_args0 rfl) rfl) (q_ceiled (stT s3 []) (ceil_e (i := nu - 500) (u := 1 + un) (by omega) (by omega)))
    have q2 := ev_call (z := ⟨[.val (.scr (ns.map D.int)), .val (.ref 1), .val (eV v), .val (.str (wrongV v)), .val (madeV v), .val (.int (nu - 500)), .val (.int (1 + un)), .no, .no, .no], stT s3 []⟩) (as := [E.var 5, E.var 6]) (ev_args (ev_var rfl) (ev_args (ev_var rfl) ev_args0 rfl) rfl) (q_law_counted (stT s3 []) (counted_e (i := nu - 500) (u := 1 + un) (by omega) (by omega) ⟨by omega, by omega⟩))
    have := ev_neI q1 q2
    rw [decide_eq_true rfl] at this
    exact tv this
  refine Ends.nx (cs_iteF t7 cs_skip) ?_
  by_cases hw : wrongV v = ""
  · have em : madeV v = eSettings (stV v) := if_pos hw
    rw [em]
    refine Ends.nx (cs_iteF (tv (p := false) (ev_ne (kk := true) (ev_var rfl) ev_c (by rw [hw]; rfl))) cs_skip) ?_
    refine Ends.nx (cs_iteF (tt_tru (p := false) (ev_un (d := .bl false) (ev_var rfl) (by unfold Mi.F.isiI; exact if_pos rfl)) rfl) cs_skip) ?_
    refine Ends.nx (cs_setN (s' := [.val (.scr (ns.map D.int)), .val (.ref 1), .val (eV v), .val (.str (wrongV v)), .val (eSettings (stV v)), .val (.int (nu - 500)), .val (.int (1 + un)), .val (.lst [eI v.columns, eI v.rows, eI v.cell, eI v.level, eI v.width, eI v.height, eI v.step, e2 eI eI v.slope, eI v.slack]), .no, .no]) (h := stT s3 []) (ev_frz (ev_disp (ev_args (ev_fldC (ev_var rfl) (fl_Settings_columns (stV v))) (ev_args (ev_fldC (ev_var rfl) (fl_Settings_rows (stV v))) (ev_args (ev_fldC (ev_var rfl) (fl_Settings_cell (stV v))) (ev_args (ev_fldC (ev_var rfl) (fl_Settings_level (stV v))) (ev_args (ev_fldC (ev_var rfl) (fl_Settings_width (stV v))) (ev_args (ev_fldC (ev_var rfl) (fl_Settings_height (stV v))) (ev_args (ev_fldC (ev_var rfl) (fl_Settings_step (stV v))) (ev_args (ev_fldC (ev_var rfl) (fl_Settings_slope (stV v))) (ev_args (ev_fldC (ev_var rfl) (fl_Settings_slack (stV v))) ev_args0 rfl) rfl) rfl) rfl) rfl) rfl) rfl) rfl) rfl))) rfl rfl) ?_
    have t11 := ev_ne (kk := true) (ev_frz (cat_ev v (a0 := .val (.scr (ns.map D.int))) (a1 := .val (.ref 1)) (a2 := .val (eV v)) (a3 := .val (.str (wrongV v))) (a5 := .val (.int (nu - 500))) (a6 := .val (.int (1 + un))) (a8 := .no) (a9 := .no) (stT s3 []))) (ev_frz (comp_ev v _ _ _ _ _ _ _ _)) (told_eq v _)
    refine Ends.nx (cs_iteF (tv t11) cs_skip) ?_
    have w := hw
    have l4 : 1 ≤ v.level ∧ 3 ≤ v.cell := by
      unfold wrongV at w
      by_cases c1 : r1 v = true
      · rw [if_pos c1] at w
        by_cases c2 : r2 v = true
        · rw [if_pos c2] at w
          by_cases c3 : r3 v = true
          · rw [if_pos c3] at w
            by_cases c4 : r4 v = true
            · unfold r3 at c3
              unfold r4 at c4
              rw [Bool.and_eq_true] at c3 c4
              exact ⟨of_decide_eq_true c4.1, of_decide_eq_true c3.1⟩
            · rw [if_neg c4] at w; exact absurd w (by decide +kernel)
          · rw [if_neg c3] at w; exact absurd w (by decide +kernel)
        · rw [if_neg c2] at w; exact absurd w (by decide +kernel)
      · rw [if_neg c1] at w; exact absurd w (by decide +kernel)
    refine Ends.nx (cs_setN (s' := [.val (.scr (ns.map D.int)), .val (.ref 1), .val (eV v), .val (.str (wrongV v)), .val (eSettings (stV v)), .val (.int (nu - 500)), .val (.int (1 + un)), .val (.lst [eI v.columns, eI v.rows, eI v.cell, eI v.level, eI v.width, eI v.height, eI v.step, e2 eI eI v.slope, eI v.slack]), .no, .val (.int (tallV v))]) (h := stT s3 []) (ev_call (ev_args (rd5 (ev_var rfl)) (ev_args (rd3 (ev_var rfl)) ev_args0 rfl) rfl) (q_law_counted _ (counted_e (by omega) (by omega) ⟨by omega, by omega⟩))) rfl rfl) ?_
    exact Ends.one (cs_ret (ev_eq (ev_frz (ev_disp (ev_args (ev_fldC (ev_var rfl) (fl_Settings_tall (stV v))) (ev_args (ev_fldC (ev_var rfl) (fl_Settings_rise (stV v))) (ev_args (ev_fldC (ev_var rfl) (fl_Settings_reach (stV v))) ev_args0 rfl) rfl) rfl))) (ev_frz (ev_disp (ev_args (ev_var rfl) (ev_args (ev_divP (rd6 (ev_var rfl)) (rd3 (ev_var rfl)) (div64 (by omega) (by omega))) (ev_args (ev_call (ev_args (rd4 (ev_var rfl)) (ev_args (rd2 (ev_var rfl)) ev_args0 rfl) rfl) (q_law_counted _ (counted_e (by omega) (by omega) ⟨by omega, by omega⟩))) ev_args0 rfl) rfl) rfl))) (tri_eq _ _ _ _)) rfl)
  · have em : madeV v = .tup [.str "error", .str (wrongV v)] := if_neg hw
    rw [em]
    refine Ends.one (cs_rt (cs_iteT (tv (p := true) (ev_ne (kk := false) (ev_var rfl) ev_c (by show some (decide (wrongV v = "")) = _; rw [decide_eq_false hw]))) (cs_ret (ev_eq (ev_var rfl) (ev_tup (ev_args ev_c (ev_args (ev_var rfl) ev_args0 rfl) rfl)) (err_eq v hw _)) rfl)))
end
end W

set_option Elab.async false
set_option linter.all false
set_option maxRecDepth 100000
set_option maxHeartbeats 0
namespace W
open PySem L2 Mi PySem.W
structure Txt (K : Kx) (mg : Str → Option Value) (base : Heap) where
  a_SettingsError___init__ : Addr
  d_SettingsError___init__ : FuncData
  f_SettingsError___init__ : FunD K "__init__" "SettingsError.__init__" (defArgs s_SettingsError___init__) (defBody s_SettingsError___init__) (defScope s_SettingsError___init__) [] [] a_SettingsError___init__ d_SettingsError___init__
  b_SettingsError___init__ : Binds K d_SettingsError___init__ ["self", "name"] []
  C_SettingsError : Addr
  g_SettingsError : mg "SettingsError" = some (.ref C_SettingsError)
  C_FootpathError : Addr
  g_FootpathError : mg "FootpathError" = some (.ref C_FootpathError)
  ti_SettingsError : (("SettingsError" : Str), C_SettingsError) ∈ K.tb.c
  tc_SettingsError : ∀ q ∈ K.tb.c, q.1 = "SettingsError" → q.2 = C_SettingsError
  ex_SettingsError : ExF K.k C_SettingsError a_SettingsError___init__ "name"
  bs_FootpathError : BseC K.k C_FootpathError
  kt_SettingsError_FootpathError : PySem.W.kitOne K.k (.ref C_SettingsError) (.ref C_FootpathError) = some true
  kv_SettingsError_ValueError : PySem.W.kitOne K.k (.ref C_SettingsError) (.type "ValueError") = some true
  xm_SettingsError_SettingsError : PySem.W.exmOne K.k (.ref C_SettingsError) (.ref C_SettingsError) = some true
  a_law_state : Addr
  d_law_state : FuncData
  f_law_state : FunD K "_law_state" "_law_state" (defArgs s_law_state) (defBody s_law_state) (defScope s_law_state) [] [] a_law_state d_law_state
  m_law_state : mg "_law_state" = some (.ref a_law_state)
  b_law_state : Binds K d_law_state ["_law_script"] []
  a_law_draw : Addr
  d_law_draw : FuncData
  f_law_draw : FunD K "_law_draw" "_law_draw" (defArgs s_law_draw) (defBody s_law_draw) (defScope s_law_draw) [] [] a_law_draw d_law_draw
  m_law_draw : mg "_law_draw" = some (.ref a_law_draw)
  b_law_draw : Binds K d_law_draw ["_law_state_here", "_law_many"] []
  a_law_near : Addr
  d_law_near : FuncData
  f_law_near : FunD K "_law_near" "_law_near" (defArgs s_law_near) (defBody s_law_near) (defScope s_law_near) [] [] a_law_near d_law_near
  m_law_near : mg "_law_near" = some (.ref a_law_near)
  b_law_near : Binds K d_law_near ["_law_state_here", "_law_least", "_law_greatest"] []
  a_law_draws : Addr
  d_law_draws : FuncData
  f_law_draws : FunD K "_law_draws" "_law_draws" (defArgs s_law_draws) (defBody s_law_draws) (defScope s_law_draws) [] [] a_law_draws d_law_draws
  m_law_draws : mg "_law_draws" = some (.ref a_law_draws)
  b_law_draws : Binds K d_law_draws ["_law_state_here"] []
  a_law_counted : Addr
  d_law_counted : FuncData
  f_law_counted : FunD K "_law_counted" "_law_counted" (defArgs s_law_counted) (defBody s_law_counted) (defScope s_law_counted) [] [] a_law_counted d_law_counted
  m_law_counted : mg "_law_counted" = some (.ref a_law_counted)
  b_law_counted : Binds K d_law_counted ["_law_length", "_law_unit"] []
  a_law_first_wrong : Addr
  d_law_first_wrong : FuncData
  f_law_first_wrong : FunD K "_law_first_wrong" "_law_first_wrong" (defArgs s_law_first_wrong) (defBody s_law_first_wrong) (defScope s_law_first_wrong) [] [] a_law_first_wrong d_law_first_wrong
  m_law_first_wrong : mg "_law_first_wrong" = some (.ref a_law_first_wrong)
  b_law_first_wrong : Binds K d_law_first_wrong ["_law_v"] []
  a_require : Addr
  d_require : FuncData
  f_require : FunD K "require" "require" (defArgs s_require) (defBody s_require) (defScope s_require) [] [] a_require d_require
  m_require : mg "require" = some (.ref a_require)
  b_require : Binds K d_require ["holds", "name"] []
  a_ceiled : Addr
  d_ceiled : FuncData
  f_ceiled : FunD K "ceiled" "ceiled" (defArgs s_ceiled) (defBody s_ceiled) (defScope s_ceiled) [] [] a_ceiled d_ceiled
  m_ceiled : mg "ceiled" = some (.ref a_ceiled)
  b_ceiled : Binds K d_ceiled ["number", "unit"] []
  a_Settings___init__ : Addr
  d_Settings___init__ : FuncData
  f_Settings___init__ : FunD K "__init__" "Settings.__init__" (defArgs s_Settings___init__) (defBody s_Settings___init__) (defScope s_Settings___init__) [] [("slack", .int 0), ("tile", .int 8)] a_Settings___init__ d_Settings___init__
  a_law_made : Addr
  d_law_made : FuncData
  f_law_made : FunD K "_law_made" "_law_made" (defArgs s_law_made) (defBody s_law_made) (defScope s_law_made) [] [] a_law_made d_law_made
  m_law_made : mg "_law_made" = some (.ref a_law_made)
  b_law_made : Binds K d_law_made ["_law_v"] []
  a_law : Addr
  d_law : FuncData
  f_law : FunD K "law" "law" (defArgs s_law) (defBody s_law) (defScope s_law) [] [] a_law d_law
  m_law : mg "law" = some (.ref a_law)
  b_law : Binds K d_law ["_law_script"] []
  n_ValueError : mg "ValueError" = none
  n_abs : mg "abs" = none
  n_int : mg "int" = none
  n_isinstance : mg "isinstance" = none
  n_len : mg "len" = none
  n_list : mg "list" = none
  n_max : mg "max" = none
  n_tuple : mg "tuple" = none
  t_MOST_CELLS : Tok
  c_MOST_CELLS : mg "MOST_CELLS" = some (.int 64 t_MOST_CELLS)
  t_MOST_LENGTH : Tok
  c_MOST_LENGTH : mg "MOST_LENGTH" = some (.int 1000 t_MOST_LENGTH)
  C_Settings : Addr
  ti_Settings : (("Settings" : Str), C_Settings) ∈ K.tb.c
  tc_Settings : ∀ q ∈ K.tb.c, q.1 = "Settings" → q.2 = C_Settings
  cl_Settings : Cls K C_Settings
  na_Settings_cell : NoAttr K C_Settings "cell"
  na_Settings_columns : NoAttr K C_Settings "columns"
  na_Settings_height : NoAttr K C_Settings "height"
  na_Settings_level : NoAttr K C_Settings "level"
  na_Settings_reach : NoAttr K C_Settings "reach"
  na_Settings_rise : NoAttr K C_Settings "rise"
  na_Settings_rows : NoAttr K C_Settings "rows"
  na_Settings_slack : NoAttr K C_Settings "slack"
  na_Settings_slope : NoAttr K C_Settings "slope"
  na_Settings_step : NoAttr K C_Settings "step"
  na_Settings_tall : NoAttr K C_Settings "tall"
  na_Settings_tile : NoAttr K C_Settings "tile"
  na_Settings_width : NoAttr K C_Settings "width"
  iv_Settings : IsvC K.k C_Settings
  ki_Settings_tuple : PySem.W.kitOne K.k (.ref C_Settings) (.type "tuple") = some false
  mk_Settings : Mk K C_Settings a_Settings___init__
  g_Settings : mg "Settings" = some (.ref C_Settings)
  kb_Settings_10 : ∃ mv : List Value, KBn K d_Settings___init__ ["self", "columns", "rows", "cell", "level", "width", "height", "step", "slope", "slack", "tile"] 1 ["columns", "rows", "cell", "level", "width", "height", "step", "slope", "slack", "tile"] (fun us ws => us ++ ws ++ mv) (fun vs zs => vs ++ zs ++ [])
section
variable {P : Program} {w : World} {K : Kx} {mg : Str → Option Value} {base : Heap}
theorem ok_SettingsError___init__ (T : Txt K mg base) : FnOk P w K mg base CX0 1 T.a_SettingsError___init__ T.d_SettingsError___init__ ["self", "name"] (spI T.C_SettingsError "name") := initE_ok T.f_SettingsError___init__ sc_SettingsError___init__ T.ex_SettingsError.oex T.ex_SettingsError.no fun A outer s H E => ini_body T.bs_FootpathError (by rfl) T.g_FootpathError rfl
theorem ok_law_state (T : Txt K mg base) : FnOk P w K mg base CX0 1 T.a_law_state T.d_law_state ["_law_script"] (spM 1 K m_law_state) := fnD_ok T.f_law_state sc_law_state rfl rfl fun A outer s H Ee hr =>
  (mss_cons (ms_set (i := 1) sc_law_state.nd me_int) (mss_cons (ms_for PassesOwn.never rfl (mi_seq (me_var 0)) seq_noOwn (mg_nm (i := 2) sc_law_state.nd) (mss_one (ms_set (i := 1) sc_law_state.nd (me_op o_mod (me_ty1 f_int1 (by rfl) T.n_int (by decide +kernel) (me_op o_add (me_op o_mul (me_var 1) me_int) (me_var 2))) me_int)))) (mss_one (ms_ret (me_shr (mf_disp (ma_cons (me_shr (mf_lc [2] (own := [("_law_cell", 2)]) rfl sc_law_state.nd (mi_seqC (me_var 0)) (blkOk_by (by kernel_rfl)) rfl (fun _ _ _ _ _ => (mg_nm (i := 2) sc_law_state.nd)) (fun _ _ _ _ _ => mts_nil) (fun _ _ _ _ _ => (me_blt1 f_abs (by rfl) T.n_abs (by decide +kernel) (me_var 2))) (by decide))) (ma_cons (me_op o_add (me_var 1) me_int) ma_nil))))))))
theorem ok_law_draw (T : Txt K mg base) : FnOk P w K mg base CX0 1 T.a_law_draw T.d_law_draw ["_law_state_here", "_law_many"] (spM 2 K m_law_draw) := fnD_ok T.f_law_draw sc_law_draw rfl rfl fun A outer s H Ee hr =>
  (mss_cons (ms_set (i := 2) sc_law_draw.nd (me_ix (me_var 0) me_int)) (mss_cons (ms_whl PassesOwn.never (PW.pt (mw_and (mt_cmp o_gt (me_blt1 f_len (by rfl) T.n_len (by decide +kernel) (me_var 2)) me_int (nomark _)) (mw_and1 (mt_cmp (o_eq hr.units) (me_ix (me_var 2) me_int) me_int (nomark _))))) (mss_one (ms_expr (me_popAt (me_var 2) (ma_cons me_int ma_nil))))) (mss_cons (ms_if (mt_cmp o_gt (me_blt1 f_len (by rfl) T.n_len (by decide +kernel) (me_var 2)) me_int (nomark _)) (mss_cons (ms_set (i := 3) sc_law_draw.nd (me_ix (me_var 2) me_int)) (mss_cons (ms_setIx (me_op o_div (me_var 3) (me_var 1)) (me_var 2) me_int) (mss_one (ms_ret (me_op o_mod (me_ty1 f_int1 (by rfl) T.n_int (by decide +kernel) (me_var 3)) (me_var 1)))))) mss_nil) (mss_cons (ms_set (i := 4) sc_law_draw.nd (me_op o_mod (me_ty1 f_int1 (by rfl) T.n_int (by decide +kernel) (me_op o_add (me_op o_mul (me_ix (me_var 0) me_int) me_int) me_int)) me_int)) (mss_cons (ms_setIx (me_var 4) (me_var 0) me_int) (mss_one (ms_ret (me_op o_mod (me_ty1 f_int1 (by rfl) T.n_int (by decide +kernel) (me_op o_div (me_var 4) me_int)) (me_var 1)))))))))
theorem ok_law_near (T : Txt K mg base) : FnOk P w K mg base CX0 2 T.a_law_near T.d_law_near ["_law_state_here", "_law_least", "_law_greatest"] (spM 3 K m_law_near) := fnD_ok T.f_law_near sc_law_near rfl rfl fun A outer s H Ee hr =>
  (mss_cons (ms_set (i := 3) sc_law_near.nd (me_call (ok_law_draw T) (hr.mono (by decide)) (by rfl) T.m_law_draw T.f_law_draw.kp T.b_law_draw (ma_cons (me_var 0) (ma_cons me_int ma_nil)))) (mss_cons (ms_if (mt_cmp (o_eq hr.units) (me_var 3) me_int (nomark _)) (mss_one (ms_ret (me_ix (me_frz (mf_disp (ma_cons (me_op o_sub (me_var 1) me_int) (ma_cons (me_op o_add (me_var 2) me_int) ma_nil)))) (me_call (ok_law_draw T) (hr.mono (by decide)) (by rfl) T.m_law_draw T.f_law_draw.kp T.b_law_draw (ma_cons (me_var 0) (ma_cons me_int ma_nil)))))) mss_nil) (mss_cons (ms_if (mt_cmp (o_eq hr.units) (me_var 3) me_int (nomark _)) (mss_one (ms_ret (me_ix (me_frz (mf_disp (ma_cons (me_var 1) (ma_cons (me_var 2) ma_nil)))) (me_call (ok_law_draw T) (hr.mono (by decide)) (by rfl) T.m_law_draw T.f_law_draw.kp T.b_law_draw (ma_cons (me_var 0) (ma_cons me_int ma_nil)))))) mss_nil) (mss_one (ms_ret (me_op o_add (me_var 1) (me_call (ok_law_draw T) (hr.mono (by decide)) (by rfl) T.m_law_draw T.f_law_draw.kp T.b_law_draw (ma_cons (me_var 0) (ma_cons (me_op o_add (me_op o_sub (me_var 2) (me_var 1)) me_int) ma_nil)))))))))
theorem ok_law_draws (T : Txt K mg base) : FnOk P w K mg base CX0 3 T.a_law_draws T.d_law_draws ["_law_state_here"] (spM 1 K m_law_draws) := fnD_ok T.f_law_draws sc_law_draws rfl rfl fun A outer s H Ee hr =>
  (mss_cons (ms_ownN (i := 1) sc_law_draws.nd (mn_disp (prs := [((E.c (.str "columns")), (E.call m_law_near [(E.var 0), (E.c (.int 1)), (E.c (.int 64))])), ((E.c (.str "rows")), (E.call m_law_near [(E.var 0), (E.c (.int 1)), (E.c (.int 64))]))]) (mp_cons me_str (me_call (ok_law_near T) (hr.mono (by decide)) (by rfl) T.m_law_near T.f_law_near.kp T.b_law_near (ma_cons (me_var 0) (ma_cons me_int (ma_cons me_int ma_nil)))) (mp_cons me_str (me_call (ok_law_near T) (hr.mono (by decide)) (by rfl) T.m_law_near T.f_law_near.kp T.b_law_near (ma_cons (me_var 0) (ma_cons me_int (ma_cons me_int ma_nil)))) mp_nil)))) (mss_cons (ms_dput hr.units (me_call (ok_law_near T) (hr.mono (by decide)) (by rfl) T.m_law_near T.f_law_near.kp T.b_law_near (ma_cons (me_var 0) (ma_cons me_int (ma_cons (me_ix (me_frz (mf_disp (ma_cons me_int (ma_cons me_int ma_nil)))) (me_call (ok_law_draw T) (hr.mono (by decide)) (by rfl) T.m_law_draw T.f_law_draw.kp T.b_law_draw (ma_cons (me_var 0) (ma_cons me_int ma_nil)))) ma_nil)))) (me_var 1) me_str) (mss_cons (ms_dput hr.units (me_call (ok_law_near T) (hr.mono (by decide)) (by rfl) T.m_law_near T.f_law_near.kp T.b_law_near (ma_cons (me_var 0) (ma_cons me_int (ma_cons (me_ix (me_frz (mf_disp (ma_cons me_int (ma_cons me_int ma_nil)))) (me_call (ok_law_draw T) (hr.mono (by decide)) (by rfl) T.m_law_draw T.f_law_draw.kp T.b_law_draw (ma_cons (me_var 0) (ma_cons me_int ma_nil)))) ma_nil)))) (me_var 1) me_str) (mss_cons (ms_dput hr.units (me_call (ok_law_near T) (hr.mono (by decide)) (by rfl) T.m_law_near T.f_law_near.kp T.b_law_near (ma_cons (me_var 0) (ma_cons me_int (ma_cons (me_op o_mul me_int (me_blt2 (f_max2 rfl) (by rfl) T.n_max (by decide +kernel) (ma_cons (me_dix hr.units (me_var 1) me_str) (ma_cons me_int ma_nil)))) ma_nil)))) (me_var 1) me_str) (mss_cons (ms_dput hr.units (me_call (ok_law_near T) (hr.mono (by decide)) (by rfl) T.m_law_near T.f_law_near.kp T.b_law_near (ma_cons (me_var 0) (ma_cons me_int (ma_cons (me_op o_mul (me_blt2 (f_max2 rfl) (by rfl) T.n_max (by decide +kernel) (ma_cons (me_dix hr.units (me_var 1) me_str) (ma_cons me_int ma_nil))) (me_ix (me_frz (mf_disp (ma_cons me_int (ma_cons me_int ma_nil)))) (me_call (ok_law_draw T) (hr.mono (by decide)) (by rfl) T.m_law_draw T.f_law_draw.kp T.b_law_draw (ma_cons (me_var 0) (ma_cons me_int ma_nil))))) ma_nil)))) (me_var 1) me_str) (mss_cons (ms_dput hr.units (me_call (ok_law_near T) (hr.mono (by decide)) (by rfl) T.m_law_near T.f_law_near.kp T.b_law_near (ma_cons (me_var 0) (ma_cons me_int (ma_cons (me_blt2 (f_max2 rfl) (by rfl) T.n_max (by decide +kernel) (ma_cons (me_dix hr.units (me_var 1) me_str) (ma_cons me_int ma_nil))) ma_nil)))) (me_var 1) me_str) (mss_cons (ms_dput hr.units (me_tup (ma_cons (me_call (ok_law_near T) (hr.mono (by decide)) (by rfl) T.m_law_near T.f_law_near.kp T.b_law_near (ma_cons (me_var 0) (ma_cons me_int (ma_cons me_int ma_nil)))) (ma_cons (me_call (ok_law_near T) (hr.mono (by decide)) (by rfl) T.m_law_near T.f_law_near.kp T.b_law_near (ma_cons (me_var 0) (ma_cons me_int (ma_cons (me_ix (me_frz (mf_disp (ma_cons me_int (ma_cons me_int ma_nil)))) (me_call (ok_law_draw T) (hr.mono (by decide)) (by rfl) T.m_law_draw T.f_law_draw.kp T.b_law_draw (ma_cons (me_var 0) (ma_cons me_int ma_nil)))) ma_nil)))) ma_nil))) (me_var 1) me_str) (mss_cons (ms_dput hr.units (me_call (ok_law_near T) (hr.mono (by decide)) (by rfl) T.m_law_near T.f_law_near.kp T.b_law_near (ma_cons (me_var 0) (ma_cons me_int (ma_cons me_int ma_nil)))) (me_var 1) me_str) (mss_cons (ms_dput hr.units (me_call (ok_law_near T) (hr.mono (by decide)) (by rfl) T.m_law_near T.f_law_near.kp T.b_law_near (ma_cons (me_var 0) (ma_cons me_int (ma_cons me_int ma_nil)))) (me_var 1) me_str) (mss_one (ms_retD (me_var 1))))))))))))
theorem ok_law_counted (T : Txt K mg base) : FnOk P w K mg base CX0 1 T.a_law_counted T.d_law_counted ["_law_length", "_law_unit"] (spM 2 K m_law_counted) := fnD_ok T.f_law_counted sc_law_counted rfl rfl fun A outer s H Ee hr =>
  (mss_cons (ms_set (i := 2) sc_law_counted.nd (me_op o_div (me_var 0) (me_var 1))) (mss_cons (ms_if (mt_cmp o_lt (me_op o_mul (me_var 2) (me_var 1)) (me_var 0) (nomark _)) (mss_one (ms_set (i := 2) sc_law_counted.nd (me_op o_add (me_var 2) me_int))) mss_nil) (mss_one (ms_ret (me_var 2)))))
theorem ok_law_first_wrong (T : Txt K mg base) : FnOk P w K mg base CX0 2 T.a_law_first_wrong T.d_law_first_wrong ["_law_v"] (spM 1 K m_law_first_wrong) := fnD_ok T.f_law_first_wrong sc_law_first_wrong rfl rfl fun A outer s H Ee hr =>
  (mss_cons (ms_if (PW.pt (mw_or (mt_cmp o_lt (me_dix hr.units (me_var 0) me_str) me_int (nomark _)) (mw_or1 (mt_cmp o_gt (me_dix hr.units (me_var 0) me_str) me_int (nomark _))))) (mss_one (ms_ret me_str)) mss_nil) (mss_cons (ms_if (PW.pt (mw_or (mt_cmp o_lt (me_dix hr.units (me_var 0) me_str) me_int (nomark _)) (mw_or1 (mt_cmp o_gt (me_dix hr.units (me_var 0) me_str) me_int (nomark _))))) (mss_one (ms_ret me_str)) mss_nil) (mss_cons (ms_if (PW.pt (mw_or (mt_cmp o_lt (me_dix hr.units (me_var 0) me_str) me_int (nomark _)) (mw_or1 (mt_cmp o_gt (me_dix hr.units (me_var 0) me_str) me_int (nomark _))))) (mss_one (ms_ret me_str)) mss_nil) (mss_cons (ms_if (PW.pt (mw_or (mt_cmp o_lt (me_dix hr.units (me_var 0) me_str) me_int (nomark _)) (mw_or1 (mt_cmp o_gt (me_dix hr.units (me_var 0) me_str) me_int (nomark _))))) (mss_one (ms_ret me_str)) mss_nil) (mss_cons (ms_if (PW.pt (mw_or (mt_cmp o_lt (me_dix hr.units (me_var 0) me_str) me_int (nomark _)) (mw_or1 (mt_cmp o_gt (me_dix hr.units (me_var 0) me_str) (me_op o_mul me_int (me_dix hr.units (me_var 0) me_str)) (nomark _))))) (mss_one (ms_ret me_str)) mss_nil) (mss_cons (ms_if (PW.pt (mw_or (mt_cmp o_lt (me_dix hr.units (me_var 0) me_str) me_int (nomark _)) (mw_or1 (mt_cmp o_gt (me_dix hr.units (me_var 0) me_str) (me_op o_mul me_int (me_dix hr.units (me_var 0) me_str)) (nomark _))))) (mss_one (ms_ret me_str)) mss_nil) (mss_cons (ms_if (PW.pt (mw_or (mt_cmp o_lt (me_dix hr.units (me_var 0) me_str) me_int (nomark _)) (mw_or1 (mt_cmp o_ge (me_op o_mul me_int (me_op o_div (me_dix hr.units (me_var 0) me_str) (me_dix hr.units (me_var 0) me_str))) (me_call (ok_law_counted T) (hr.mono (by decide)) (by rfl) T.m_law_counted T.f_law_counted.kp T.b_law_counted (ma_cons (me_dix hr.units (me_var 0) me_str) (ma_cons (me_dix hr.units (me_var 0) me_str) ma_nil))) (nomark _))))) (mss_one (ms_ret me_str)) mss_nil) (mss_cons (ms_asg (me_dix hr.units (me_var 0) me_str) (mg_tp rfl (mgs_cons (mg_nm (i := 1) sc_law_first_wrong.nd) (mgs_cons (mg_nm (i := 2) sc_law_first_wrong.nd) mgs_nil)))) (mss_cons (ms_if (PW.pt (mw_or (mt_cmp o_lt (me_var 1) me_int (nomark _)) (mw_or (mt_cmp o_gt (me_var 1) (me_var 2) (nomark _)) (mw_or (mt_cmp o_lt (me_var 2) me_int (nomark _)) (mw_or1 (mt_cmp o_gt (me_var 2) me_int (nomark _))))))) (mss_one (ms_ret me_str)) mss_nil) (mss_cons (ms_if (PW.pt (mw_or (mt_cmp o_lt (me_dix hr.units (me_var 0) me_str) me_int (nomark _)) (mw_or1 (mt_cmp o_gt (me_dix hr.units (me_var 0) me_str) me_int (nomark _))))) (mss_one (ms_ret me_str)) mss_nil) (mss_cons (ms_if (PW.pt (mw_or (mt_cmp o_lt (me_dix hr.units (me_var 0) me_str) me_int (nomark _)) (mw_or1 (mt_cmp o_gt (me_dix hr.units (me_var 0) me_str) me_int (nomark _))))) (mss_one (ms_ret me_str)) mss_nil) (mss_one (ms_ret me_str)))))))))))))
theorem okx_require (T : Txt K mg base) : FnOk P w K mg base (L2.CX P w) 3 T.a_require T.d_require ["holds", "name"] (spE 2 K mx_require) := fnE_ok T.f_require sc_require rfl rfl fun A outer s H Ee hr tk =>
  (mxs_one (mx_if (mt_not (mt_tru (me_var 0))) (mxs_one (mx_raise rfl tk T.ti_SettingsError T.ex_SettingsError.oex T.ex_SettingsError.iC T.ex_SettingsError.tI (ok_SettingsError___init__ T) (hr.mono (by decide)) T.b_SettingsError___init__ (by rfl) T.g_SettingsError (me_var 1))) (mxs_lift mss_nil)))
theorem ok_require (T : Txt K mg base) : FnOk P w K mg base CX0 3 T.a_require T.d_require ["holds", "name"] (spM 2 K m_require) := fnD_ok T.f_require sc_require rfl rfl fun A outer s H Ee hr =>
  (mss_one (ms_if (mt_not (mt_tru (me_var 0))) (mss_one ms_never0) mss_nil))
theorem ok_ceiled (T : Txt K mg base) : FnOk P w K mg base CX0 1 T.a_ceiled T.d_ceiled ["number", "unit"] (spM 2 K m_ceiled) := fnD_ok T.f_ceiled sc_ceiled rfl rfl fun A outer s H Ee hr =>
  (mss_one (ms_ret (me_neg (me_op o_div (me_neg (me_var 0)) (me_var 1)))))
theorem okx_Settings___init__ (T : Txt K mg base) : FnOk P w K mg base (L2.CX P w) 4 T.a_Settings___init__ T.d_Settings___init__ ["self", "columns", "rows", "cell", "level", "width", "height", "step", "slope", "slack", "tile"] (spE 11 K mx_Settings___init__) := fnE_ok T.f_Settings___init__ sc_Settings___init__ rfl rfl fun A outer s H Ee hr tk =>
  (mxs_cons (mx_expr (mx_call tk (okx_require T) (hr.mono (by decide)) (by rfl) T.m_require T.f_require.kp T.b_require (ma_cons (me_chain o_le o_le me_int (me_var 1) (me_globI (by rfl) T.c_MOST_CELLS)) (ma_cons me_str ma_nil)))) (mxs_cons (mx_expr (mx_call tk (okx_require T) (hr.mono (by decide)) (by rfl) T.m_require T.f_require.kp T.b_require (ma_cons (me_chain o_le o_le me_int (me_var 2) (me_globI (by rfl) T.c_MOST_CELLS)) (ma_cons me_str ma_nil)))) (mxs_cons (mx_expr (mx_call tk (okx_require T) (hr.mono (by decide)) (by rfl) T.m_require T.f_require.kp T.b_require (ma_cons (me_chain o_le o_le me_int (me_var 3) (me_globI (by rfl) T.c_MOST_LENGTH)) (ma_cons me_str ma_nil)))) (mxs_cons (mx_expr (mx_call tk (okx_require T) (hr.mono (by decide)) (by rfl) T.m_require T.f_require.kp T.b_require (ma_cons (me_chain o_le o_le me_int (me_var 4) (me_globI (by rfl) T.c_MOST_LENGTH)) (ma_cons me_str ma_nil)))) (mxs_cons (mx_expr (mx_call tk (okx_require T) (hr.mono (by decide)) (by rfl) T.m_require T.f_require.kp T.b_require (ma_cons (me_chain o_le o_le me_int (me_var 5) (me_op o_mul me_int (me_var 3))) (ma_cons me_str ma_nil)))) (mxs_cons (mx_expr (mx_call tk (okx_require T) (hr.mono (by decide)) (by rfl) T.m_require T.f_require.kp T.b_require (ma_cons (me_chain o_le o_le me_int (me_var 6) (me_op o_mul (me_globI (by rfl) T.c_MOST_LENGTH) (me_var 4))) (ma_cons me_str ma_nil)))) (mxs_cons (mx_lift (ms_fsetC T.tc_Settings T.cl_Settings T.na_Settings_tall (me_var 0) (me_call (ok_ceiled T) (hr.mono (by decide)) (by rfl) T.m_ceiled T.f_ceiled.kp T.b_ceiled (ma_cons (me_var 6) (ma_cons (me_var 4) ma_nil))))) (mxs_cons (mx_lift (ms_fsetC T.tc_Settings T.cl_Settings T.na_Settings_rise (me_var 0) (me_op o_div (me_var 7) (me_var 4)))) (mxs_cons (mx_expr (mx_call tk (okx_require T) (hr.mono (by decide)) (by rfl) T.m_require T.f_require.kp T.b_require (ma_cons (me_and (me_cmp o_ge (me_var 7) me_int (nomark _)) (me_one (me_cmp o_lt (me_op o_mul me_int (me_fldC T.tc_Settings T.cl_Settings T.na_Settings_rise (me_var 0))) (me_fldC T.tc_Settings T.cl_Settings T.na_Settings_tall (me_var 0)) (nomark _)))) (ma_cons me_str ma_nil)))) (mxs_cons (mx_expr (mx_call tk (okx_require T) (hr.mono (by decide)) (by rfl) T.m_require T.f_require.kp T.b_require (ma_cons (me_and (me_chain3 o_le o_le o_le me_int (me_ix (me_var 8) me_int) (me_ix (me_var 8) me_int) (me_globI (by rfl) T.c_MOST_LENGTH)) (me_one (me_cmp o_gt (me_ix (me_var 8) me_int) me_int (nomark _)))) (ma_cons me_str ma_nil)))) (mxs_cons (mx_expr (mx_call tk (okx_require T) (hr.mono (by decide)) (by rfl) T.m_require T.f_require.kp T.b_require (ma_cons (me_chain o_le o_le me_int (me_var 9) (me_globI (by rfl) T.c_MOST_LENGTH)) (ma_cons me_str ma_nil)))) (mxs_cons (mx_expr (mx_call tk (okx_require T) (hr.mono (by decide)) (by rfl) T.m_require T.f_require.kp T.b_require (ma_cons (me_chain o_le o_le me_int (me_var 10) me_int) (ma_cons me_str ma_nil)))) (mxs_cons (mx_lift (ms_fsetC T.tc_Settings T.cl_Settings T.na_Settings_columns (me_var 0) (me_var 1))) (mxs_cons (mx_lift (ms_fsetC T.tc_Settings T.cl_Settings T.na_Settings_rows (me_var 0) (me_var 2))) (mxs_cons (mx_lift (ms_fsetC T.tc_Settings T.cl_Settings T.na_Settings_cell (me_var 0) (me_var 3))) (mxs_cons (mx_lift (ms_fsetC T.tc_Settings T.cl_Settings T.na_Settings_level (me_var 0) (me_var 4))) (mxs_cons (mx_lift (ms_fsetC T.tc_Settings T.cl_Settings T.na_Settings_width (me_var 0) (me_var 5))) (mxs_cons (mx_lift (ms_fsetC T.tc_Settings T.cl_Settings T.na_Settings_height (me_var 0) (me_var 6))) (mxs_cons (mx_lift (ms_fsetC T.tc_Settings T.cl_Settings T.na_Settings_step (me_var 0) (me_var 7))) (mxs_cons (mx_lift (ms_fsetC T.tc_Settings T.cl_Settings T.na_Settings_slope (me_var 0) (me_ty1 f_tuple (by rfl) T.n_tuple (by decide +kernel) (me_var 8)))) (mxs_cons (mx_lift (ms_fsetC T.tc_Settings T.cl_Settings T.na_Settings_slack (me_var 0) (me_var 9))) (mxs_cons (mx_lift (ms_fsetC T.tc_Settings T.cl_Settings T.na_Settings_tile (me_var 0) (me_var 10))) (mxs_one (mx_lift (ms_fsetC T.tc_Settings T.cl_Settings T.na_Settings_reach (me_var 0) (me_call (ok_ceiled T) (hr.mono (by decide)) (by rfl) T.m_ceiled T.f_ceiled.kp T.b_ceiled (ma_cons (me_var 5) (ma_cons (me_var 3) ma_nil))))))))))))))))))))))))))))
theorem ok_Settings___init__ (T : Txt K mg base) : FnOk P w K mg base CX0 4 T.a_Settings___init__ T.d_Settings___init__ ["self", "columns", "rows", "cell", "level", "width", "height", "step", "slope", "slack", "tile"] (spM 11 K m_Settings___init__) := fnD_ok T.f_Settings___init__ sc_Settings___init__ rfl rfl fun A outer s H Ee hr =>
  (mss_cons (ms_expr (me_call (ok_require T) (hr.mono (by decide)) (by rfl) T.m_require T.f_require.kp T.b_require (ma_cons (me_chain o_le o_le me_int (me_var 1) (me_globI (by rfl) T.c_MOST_CELLS)) (ma_cons me_str ma_nil)))) (mss_cons (ms_expr (me_call (ok_require T) (hr.mono (by decide)) (by rfl) T.m_require T.f_require.kp T.b_require (ma_cons (me_chain o_le o_le me_int (me_var 2) (me_globI (by rfl) T.c_MOST_CELLS)) (ma_cons me_str ma_nil)))) (mss_cons (ms_expr (me_call (ok_require T) (hr.mono (by decide)) (by rfl) T.m_require T.f_require.kp T.b_require (ma_cons (me_chain o_le o_le me_int (me_var 3) (me_globI (by rfl) T.c_MOST_LENGTH)) (ma_cons me_str ma_nil)))) (mss_cons (ms_expr (me_call (ok_require T) (hr.mono (by decide)) (by rfl) T.m_require T.f_require.kp T.b_require (ma_cons (me_chain o_le o_le me_int (me_var 4) (me_globI (by rfl) T.c_MOST_LENGTH)) (ma_cons me_str ma_nil)))) (mss_cons (ms_expr (me_call (ok_require T) (hr.mono (by decide)) (by rfl) T.m_require T.f_require.kp T.b_require (ma_cons (me_chain o_le o_le me_int (me_var 5) (me_op o_mul me_int (me_var 3))) (ma_cons me_str ma_nil)))) (mss_cons (ms_expr (me_call (ok_require T) (hr.mono (by decide)) (by rfl) T.m_require T.f_require.kp T.b_require (ma_cons (me_chain o_le o_le me_int (me_var 6) (me_op o_mul (me_globI (by rfl) T.c_MOST_LENGTH) (me_var 4))) (ma_cons me_str ma_nil)))) (mss_cons (ms_fsetC T.tc_Settings T.cl_Settings T.na_Settings_tall (me_var 0) (me_call (ok_ceiled T) (hr.mono (by decide)) (by rfl) T.m_ceiled T.f_ceiled.kp T.b_ceiled (ma_cons (me_var 6) (ma_cons (me_var 4) ma_nil)))) (mss_cons (ms_fsetC T.tc_Settings T.cl_Settings T.na_Settings_rise (me_var 0) (me_op o_div (me_var 7) (me_var 4))) (mss_cons (ms_expr (me_call (ok_require T) (hr.mono (by decide)) (by rfl) T.m_require T.f_require.kp T.b_require (ma_cons (me_and (me_cmp o_ge (me_var 7) me_int (nomark _)) (me_one (me_cmp o_lt (me_op o_mul me_int (me_fldC T.tc_Settings T.cl_Settings T.na_Settings_rise (me_var 0))) (me_fldC T.tc_Settings T.cl_Settings T.na_Settings_tall (me_var 0)) (nomark _)))) (ma_cons me_str ma_nil)))) (mss_cons (ms_expr (me_call (ok_require T) (hr.mono (by decide)) (by rfl) T.m_require T.f_require.kp T.b_require (ma_cons (me_and (me_chain3 o_le o_le o_le me_int (me_ix (me_var 8) me_int) (me_ix (me_var 8) me_int) (me_globI (by rfl) T.c_MOST_LENGTH)) (me_one (me_cmp o_gt (me_ix (me_var 8) me_int) me_int (nomark _)))) (ma_cons me_str ma_nil)))) (mss_cons (ms_expr (me_call (ok_require T) (hr.mono (by decide)) (by rfl) T.m_require T.f_require.kp T.b_require (ma_cons (me_chain o_le o_le me_int (me_var 9) (me_globI (by rfl) T.c_MOST_LENGTH)) (ma_cons me_str ma_nil)))) (mss_cons (ms_expr (me_call (ok_require T) (hr.mono (by decide)) (by rfl) T.m_require T.f_require.kp T.b_require (ma_cons (me_chain o_le o_le me_int (me_var 10) me_int) (ma_cons me_str ma_nil)))) (mss_cons (ms_fsetC T.tc_Settings T.cl_Settings T.na_Settings_columns (me_var 0) (me_var 1)) (mss_cons (ms_fsetC T.tc_Settings T.cl_Settings T.na_Settings_rows (me_var 0) (me_var 2)) (mss_cons (ms_fsetC T.tc_Settings T.cl_Settings T.na_Settings_cell (me_var 0) (me_var 3)) (mss_cons (ms_fsetC T.tc_Settings T.cl_Settings T.na_Settings_level (me_var 0) (me_var 4)) (mss_cons (ms_fsetC T.tc_Settings T.cl_Settings T.na_Settings_width (me_var 0) (me_var 5)) (mss_cons (ms_fsetC T.tc_Settings T.cl_Settings T.na_Settings_height (me_var 0) (me_var 6)) (mss_cons (ms_fsetC T.tc_Settings T.cl_Settings T.na_Settings_step (me_var 0) (me_var 7)) (mss_cons (ms_fsetC T.tc_Settings T.cl_Settings T.na_Settings_slope (me_var 0) (me_ty1 f_tuple (by rfl) T.n_tuple (by decide +kernel) (me_var 8))) (mss_cons (ms_fsetC T.tc_Settings T.cl_Settings T.na_Settings_slack (me_var 0) (me_var 9)) (mss_cons (ms_fsetC T.tc_Settings T.cl_Settings T.na_Settings_tile (me_var 0) (me_var 10)) (mss_one (ms_fsetC T.tc_Settings T.cl_Settings T.na_Settings_reach (me_var 0) (me_call (ok_ceiled T) (hr.mono (by decide)) (by rfl) T.m_ceiled T.f_ceiled.kp T.b_ceiled (ma_cons (me_var 5) (ma_cons (me_var 3) ma_nil)))))))))))))))))))))))))))
theorem ok_law_made (T : Txt K mg base) : FnOk P w K mg base CX0 6 T.a_law_made T.d_law_made ["_law_v"] (spM 1 K m_law_made) := fnD_ok T.f_law_made sc_law_made rfl rfl fun A outer s H Ee hr =>
  (mss_one (ms_try (i := 1) rfl rfl sc_law_made.nd rfl rfl (by rfl) T.g_SettingsError (fun W pn xe tk => (mxs_one (mx_ret (mx_mk (n := 10) (m := 10) (gV := (fun zs => zs)) tk T.ti_Settings T.mk_Settings (okx_Settings___init__ T) (hr.mono (by decide)) (by rfl) T.g_Settings T.kb_Settings_10.choose_spec (fun _ _ _ => by first | rfl | simp) (fun hl r => ⟨r, by rw [← r.length, hl]⟩) rfl rfl (mk_cons (me_dix hr.units (me_var 0) me_str) (mk_cons (me_dix hr.units (me_var 0) me_str) (mk_cons (me_dix hr.units (me_var 0) me_str) (mk_cons (me_dix hr.units (me_var 0) me_str) (mk_cons (me_dix hr.units (me_var 0) me_str) (mk_cons (me_dix hr.units (me_var 0) me_str) (mk_cons (me_dix hr.units (me_var 0) me_str) (mk_cons (me_dix hr.units (me_var 0) me_str) (mk_cons (me_dix hr.units (me_var 0) me_str) (mk_cons (me_dix hr.units (me_var 0) me_str) mk_nil)))))))))))))) (fun x h hc C hC => by unfold ct_law_made1 at hc; split at hc; rename_i q; cases hc; obtain rfl : _ = T.C_SettingsError := T.tc_SettingsError _ hC q.1; exact T.xm_SettingsError_SettingsError; cases hc) (fun x h hc C hC a oe dd pn hz hv => by unfold ct_law_made1 at hc; split at hc; rename_i q; cases hc; obtain rfl : _ = T.C_SettingsError := T.tc_SettingsError _ hC q.1; exact (su_notOr (pe_excIs T.ex_SettingsError.isi hz hv (pe_glob (v := .ref T.C_FootpathError) (by rfl) T.g_FootpathError rfl) (fun u r => r) T.kt_SettingsError_FootpathError (by rfl) T.n_isinstance) (pe_excIs T.ex_SettingsError.isi hz hv (pe_bltn (v := .ty "ValueError") (by rfl) T.n_ValueError (by decide +kernel) rfl) (fun u r => r) T.kv_SettingsError_ValueError (by rfl) T.n_isinstance) (pe_excF T.ex_SettingsError.xf T.ex_SettingsError.no hz hv (hx := q.2)) (pss_one (ps_ret (pe_tup (pa_cons pe_str (pa_cons pe_str pa_nil)))))); cases hc)))
theorem ok_law (T : Txt K mg base) : FnOk P w K mg base CX0 7 T.a_law T.d_law ["_law_script"] (spM 1 K m_law) := fnD_ok T.f_law sc_law rfl rfl fun A outer s H Ee hr =>
  (mss_cons (ms_set (i := 1) sc_law.nd (me_call (ok_law_state T) (hr.mono (by decide)) (by rfl) T.m_law_state T.f_law_state.kp T.b_law_state (ma_cons (me_var 0) ma_nil))) (mss_cons (ms_set (i := 2) sc_law.nd (me_call (ok_law_draws T) (hr.mono (by decide)) (by rfl) T.m_law_draws T.f_law_draws.kp T.b_law_draws (ma_cons (me_var 1) ma_nil))) (mss_cons (ms_set (i := 3) sc_law.nd (me_call (ok_law_first_wrong T) (hr.mono (by decide)) (by rfl) T.m_law_first_wrong T.f_law_first_wrong.kp T.b_law_first_wrong (ma_cons (me_var 2) ma_nil))) (mss_cons (ms_set (i := 4) sc_law.nd (me_call (ok_law_made T) (hr.mono (by decide)) (by rfl) T.m_law_made T.f_law_made.kp T.b_law_made (ma_cons (me_var 2) ma_nil))) (mss_cons (ms_set (i := 5) sc_law.nd (me_op o_sub (me_call (ok_law_draw T) (hr.mono (by decide)) (by rfl) T.m_law_draw T.f_law_draw.kp T.b_law_draw (ma_cons (me_var 1) (ma_cons me_int ma_nil))) me_int)) (mss_cons (ms_set (i := 6) sc_law.nd (me_op o_add me_int (me_call (ok_law_draw T) (hr.mono (by decide)) (by rfl) T.m_law_draw T.f_law_draw.kp T.b_law_draw (ma_cons (me_var 1) (ma_cons me_int ma_nil))))) (mss_cons (ms_if (mt_cmp (o_ne hr.units) (me_call (ok_ceiled T) (hr.mono (by decide)) (by rfl) T.m_ceiled T.f_ceiled.kp T.b_ceiled (ma_cons (me_var 5) (ma_cons (me_var 6) ma_nil))) (me_call (ok_law_counted T) (hr.mono (by decide)) (by rfl) T.m_law_counted T.f_law_counted.kp T.b_law_counted (ma_cons (me_var 5) (ma_cons (me_var 6) ma_nil))) (nomark _)) (mss_one (ms_ret me_bl)) mss_nil) (mss_cons (ms_if (mt_cmp (o_ne hr.units) (me_var 3) me_str (nomark _)) (mss_one (ms_ret (me_cmp (o_eq hr.units) (me_var 4) (me_tup (ma_cons me_str (ma_cons (me_var 3) ma_nil))) (nomark _)))) mss_nil) (mss_cons (ms_if (mt_tru (me_isiI T.tc_Settings T.cl_Settings T.iv_Settings T.ki_Settings_tuple (by rfl) T.n_isinstance (by rfl) T.n_tuple (by decide +kernel) (me_var 4))) (mss_one (ms_ret me_bl)) mss_nil) (mss_cons (ms_set (i := 7) sc_law.nd (me_frz (mf_disp (ma_cons (me_fldC T.tc_Settings T.cl_Settings T.na_Settings_columns (me_var 4)) (ma_cons (me_fldC T.tc_Settings T.cl_Settings T.na_Settings_rows (me_var 4)) (ma_cons (me_fldC T.tc_Settings T.cl_Settings T.na_Settings_cell (me_var 4)) (ma_cons (me_fldC T.tc_Settings T.cl_Settings T.na_Settings_level (me_var 4)) (ma_cons (me_fldC T.tc_Settings T.cl_Settings T.na_Settings_width (me_var 4)) (ma_cons (me_fldC T.tc_Settings T.cl_Settings T.na_Settings_height (me_var 4)) (ma_cons (me_fldC T.tc_Settings T.cl_Settings T.na_Settings_step (me_var 4)) (ma_cons (me_fldC T.tc_Settings T.cl_Settings T.na_Settings_slope (me_var 4)) (ma_cons (me_fldC T.tc_Settings T.cl_Settings T.na_Settings_slack (me_var 4)) ma_nil)))))))))))) (mss_cons (ms_if (mt_cmp (o_ne hr.units) (me_frz (mf_cat (me_var 7) (me_frz (mf_disp (ma_cons (me_fldC T.tc_Settings T.cl_Settings T.na_Settings_tile (me_var 4)) ma_nil))))) (me_frz (mf_lc [8] (own := [("_law_name", 8)]) rfl sc_law.nd (mi_seqC (me_frz (mf_keysL rfl (by rfl) T.n_list (me_var 2)))) (blkOk_by (by kernel_rfl)) rfl (fun _ _ _ _ _ => (mg_nm (i := 8) sc_law.nd)) (fun _ _ _ _ _ => mts_nil) (fun _ _ _ _ _ => (me_dix hr.units (me_var 2) (me_var 8))) (by decide))) (nomark _)) (mss_one (ms_ret me_bl)) mss_nil) (mss_cons (ms_set (i := 9) sc_law.nd (me_call (ok_law_counted T) (hr.mono (by decide)) (by rfl) T.m_law_counted T.f_law_counted.kp T.b_law_counted (ma_cons (me_dix hr.units (me_var 2) me_str) (ma_cons (me_dix hr.units (me_var 2) me_str) ma_nil)))) (mss_one (ms_ret (me_cmp (o_eq hr.units) (me_frz (mf_disp (ma_cons (me_fldC T.tc_Settings T.cl_Settings T.na_Settings_tall (me_var 4)) (ma_cons (me_fldC T.tc_Settings T.cl_Settings T.na_Settings_rise (me_var 4)) (ma_cons (me_fldC T.tc_Settings T.cl_Settings T.na_Settings_reach (me_var 4)) ma_nil))))) (me_frz (mf_disp (ma_cons (me_var 9) (ma_cons (me_op o_div (me_dix hr.units (me_var 2) me_str) (me_dix hr.units (me_var 2) me_str)) (ma_cons (me_call (ok_law_counted T) (hr.mono (by decide)) (by rfl) T.m_law_counted T.f_law_counted.kp T.b_law_counted (ma_cons (me_dix hr.units (me_var 2) me_str) (ma_cons (me_dix hr.units (me_var 2) me_str) ma_nil))) ma_nil))))) (nomark _))))))))))))))))
end
set_option maxHeartbeats 0 in
theorem facts {P : Program} {w : World} {K : PySem.W.Frag} {h : Heap} {mg : Str → Option Value} {f : Addr} (X : K.In h) (G : h.Ns mainGlobals mg) (hfa : mg "law" = some (.ref f)) (c : He.SaysX fa_ fn_ [] (tf_.map Prod.fst) ex_ w h K) :
    ∃ (K : PySem.W.Frag) (fd : FuncData) (cs : List Cs) (cl : List (Str × Addr)), K.In h ∧ CsOk K h cs ∧ (∀ (s : Shared) (u : Value), BindsTo s fd ⟨[u], []⟩ [("_law_script", u)]) ∧ ∀ base : Heap, K.In base → base.Ns mainGlobals mg → (∀ z ∈ cs, LamX.TabB base mg z.c z.p) → GOk P w K mg base 7 f fd ["_law_script"] (spM 1 ⟨K, ⟨tbs cs, cl⟩⟩ m_law) := by
  have cd := c.t.d
  obtain ⟨fd0, F0⟩ := cd.def_ 0 (d := D_law_state) rfl
  obtain ⟨fd1, F1⟩ := cd.def_ 1 (d := D_law_draw) rfl
  obtain ⟨fd2, F2⟩ := cd.def_ 2 (d := D_law_near) rfl
  obtain ⟨fd3, F3⟩ := cd.def_ 3 (d := D_law_draws) rfl
  obtain ⟨fd4, F4⟩ := cd.def_ 4 (d := D_law_counted) rfl
  obtain ⟨fd5, F5⟩ := cd.def_ 5 (d := D_law_first_wrong) rfl
  obtain ⟨fd6, F6⟩ := cd.def_ 6 (d := D_require) rfl
  obtain ⟨fd7, F7⟩ := cd.def_ 7 (d := D_ceiled) rfl
  obtain ⟨fd8, F8⟩ := cd.def_ 8 (d := D_Settings___init__) rfl
  obtain ⟨fd9, F9⟩ := cd.def_ 9 (d := D_law_made) rfl
  obtain ⟨fd10, F10⟩ := cd.def_ 10 (d := D_law) rfl
  obtain ⟨fdE0, FE0⟩ := cd.def_ 11 (d := D_SettingsError___init__) rfl
  have e := hfa.symm.trans (He.glo_ok X G (cd.fact 9 (f := .glo "law") rfl))
  cases e
  have hb := F10.bindsA (ps := ["_law_script"]) fun _ _ _ _ _ _ us hl => match us, hl with | [_], _ => rfl
  obtain ⟨ti0, hi0⟩ := He.int_ok X G (cd.fact 18 (f := .int "MOST_CELLS" 64) rfl)
  obtain ⟨ti1, hi1⟩ := He.int_ok X G (cd.fact 19 (f := .int "MOST_LENGTH" 1000) rfl)
  have more : ex_ _ = true := c.more
  unfold ex_ at more
  simp only [Bool.and_eq_true] at more
  refine ⟨K, fd10, csD K tf_, [("Settings", He.ga K "Settings"), ("SettingsError", He.ga K "SettingsError")], X, csD_ok X c ?_, fun s v => hb s [v] rfl, fun base _ _ hT => ?_⟩
  · intro z hz y hy e
    have h1 := List.all_eq_true.mp (List.all_eq_true.mp more.1.1.1.1.1.1.1 z hz) y hy
    rw [Bool.or_eq_true] at h1
    rcases h1 with h1 | h1
    · rw [decide_eq_true e] at h1
      cases h1
    · exact of_decide_eq_true h1
  let T : Txt ⟨K, ⟨tbs (csD K tf_), [("Settings", He.ga K "Settings"), ("SettingsError", He.ga K "SettingsError")]⟩⟩ mg base := {
    a_law_state := _, d_law_state := _, f_law_state := F0,
    m_law_state := He.glo_ok X G (cd.fact 0 (f := .glo "_law_state") rfl),
    b_law_state := F0.bindsN (ps := ["_law_script"]) fun _ _ _ _ _ _ us hl => match us, hl with | [_], _ => rfl,
    a_law_draw := _, d_law_draw := _, f_law_draw := F1,
    m_law_draw := He.glo_ok X G (cd.fact 1 (f := .glo "_law_draw") rfl),
    b_law_draw := F1.bindsN (ps := ["_law_state_here", "_law_many"]) fun _ _ _ _ _ _ us hl => match us, hl with | [_, _], _ => rfl,
    a_law_near := _, d_law_near := _, f_law_near := F2,
    m_law_near := He.glo_ok X G (cd.fact 2 (f := .glo "_law_near") rfl),
    b_law_near := F2.bindsN (ps := ["_law_state_here", "_law_least", "_law_greatest"]) fun _ _ _ _ _ _ us hl => match us, hl with | [_, _, _], _ => rfl,
    a_law_draws := _, d_law_draws := _, f_law_draws := F3,
    m_law_draws := He.glo_ok X G (cd.fact 3 (f := .glo "_law_draws") rfl),
    b_law_draws := F3.bindsN (ps := ["_law_state_here"]) fun _ _ _ _ _ _ us hl => match us, hl with | [_], _ => rfl,
    a_law_counted := _, d_law_counted := _, f_law_counted := F4,
    m_law_counted := He.glo_ok X G (cd.fact 4 (f := .glo "_law_counted") rfl),
    b_law_counted := F4.bindsN (ps := ["_law_length", "_law_unit"]) fun _ _ _ _ _ _ us hl => match us, hl with | [_, _], _ => rfl,
    a_law_first_wrong := _, d_law_first_wrong := _, f_law_first_wrong := F5,
    m_law_first_wrong := He.glo_ok X G (cd.fact 5 (f := .glo "_law_first_wrong") rfl),
    b_law_first_wrong := F5.bindsN (ps := ["_law_v"]) fun _ _ _ _ _ _ us hl => match us, hl with | [_], _ => rfl,
    a_require := _, d_require := _, f_require := F6,
    m_require := He.glo_ok X G (cd.fact 6 (f := .glo "require") rfl),
    b_require := F6.bindsN (ps := ["holds", "name"]) fun _ _ _ _ _ _ us hl => match us, hl with | [_, _], _ => rfl,
    a_ceiled := _, d_ceiled := _, f_ceiled := F7,
    m_ceiled := He.glo_ok X G (cd.fact 7 (f := .glo "ceiled") rfl),
    b_ceiled := F7.bindsN (ps := ["number", "unit"]) fun _ _ _ _ _ _ us hl => match us, hl with | [_, _], _ => rfl,
    a_Settings___init__ := _, d_Settings___init__ := _, f_Settings___init__ := F8,
    a_law_made := _, d_law_made := _, f_law_made := F9,
    m_law_made := He.glo_ok X G (cd.fact 8 (f := .glo "_law_made") rfl),
    b_law_made := F9.bindsN (ps := ["_law_v"]) fun _ _ _ _ _ _ us hl => match us, hl with | [_], _ => rfl,
    a_law := _, d_law := _, f_law := F10,
    m_law := He.glo_ok X G (cd.fact 9 (f := .glo "law") rfl),
    b_law := F10.bindsN (ps := ["_law_script"]) fun _ _ _ _ _ _ us hl => match us, hl with | [_], _ => rfl,
    a_SettingsError___init__ := _, d_SettingsError___init__ := _, f_SettingsError___init__ := FE0, b_SettingsError___init__ := FE0.bindsN (ps := ["self", "name"]) fun _ _ _ _ _ _ us hl => match us, hl with | [_, _], _ => rfl,
    ti_SettingsError := List.mem_of_getElem? (i := 1) rfl, tc_SettingsError := (by intro q hq e; simp only [List.mem_cons, List.not_mem_nil, or_false] at hq; rcases hq with rfl | rfl; all_goals first | rfl | (dsimp only at e; exact absurd e (by decide +kernel))),
    ex_SettingsError := exB_ok more.1.1.1.1.1.1.2,
    C_SettingsError := He.ga K "SettingsError", g_SettingsError := He.glo_ok X G (cd.fact 36 (f := .glo "SettingsError") rfl),
    C_FootpathError := He.ga K "FootpathError", g_FootpathError := He.glo_ok X G (cd.fact 37 (f := .glo "FootpathError") rfl),
    bs_FootpathError := bseB_ok more.1.1.1.1.1.2,
    kt_SettingsError_FootpathError := of_decide_eq_true more.1.1.1.1.2,
    kv_SettingsError_ValueError := of_decide_eq_true more.1.1.1.2,
    xm_SettingsError_SettingsError := of_decide_eq_true more.2,
    iv_Settings := isvB_ok more.1.1.2,
    ki_Settings_tuple := of_decide_eq_true more.1.2,
    C_Settings := He.ga K "Settings", ti_Settings := List.mem_of_getElem? (i := 0) rfl, tc_Settings := (by intro q hq e; simp only [List.mem_cons, List.not_mem_nil, or_false] at hq; rcases hq with rfl | rfl; all_goals first | rfl | (dsimp only at e; exact absurd e (by decide +kernel))), cl_Settings := He.cls_ok (cd.fact 21 (f := .cls "Settings") rfl),
    na_Settings_cell := He.noat_ok (cd.fact 22 (f := .noat "Settings" "cell") rfl),
    na_Settings_columns := He.noat_ok (cd.fact 23 (f := .noat "Settings" "columns") rfl),
    na_Settings_height := He.noat_ok (cd.fact 24 (f := .noat "Settings" "height") rfl),
    na_Settings_level := He.noat_ok (cd.fact 25 (f := .noat "Settings" "level") rfl),
    na_Settings_reach := He.noat_ok (cd.fact 26 (f := .noat "Settings" "reach") rfl),
    na_Settings_rise := He.noat_ok (cd.fact 27 (f := .noat "Settings" "rise") rfl),
    na_Settings_rows := He.noat_ok (cd.fact 28 (f := .noat "Settings" "rows") rfl),
    na_Settings_slack := He.noat_ok (cd.fact 29 (f := .noat "Settings" "slack") rfl),
    na_Settings_slope := He.noat_ok (cd.fact 30 (f := .noat "Settings" "slope") rfl),
    na_Settings_step := He.noat_ok (cd.fact 31 (f := .noat "Settings" "step") rfl),
    na_Settings_tall := He.noat_ok (cd.fact 32 (f := .noat "Settings" "tall") rfl),
    na_Settings_tile := He.noat_ok (cd.fact 33 (f := .noat "Settings" "tile") rfl),
    na_Settings_width := He.noat_ok (cd.fact 34 (f := .noat "Settings" "width") rfl),
    mk_Settings := He.mkr_ok (cd.fact 35 (f := .mkr "Settings") rfl), g_Settings := He.glo_ok X G (cd.fact 20 (f := .glo "Settings") rfl),
    kb_Settings_10 := F8.kbinds0 (ps := ["self", "columns", "rows", "cell", "level", "width", "height", "step", "slope", "slack", "tile"]) 1 ["columns", "rows", "cell", "level", "width", "height", "step", "slope", "slack", "tile"] [] (fun vs mz zs => vs ++ zs ++ mz) (fun e => List.cons_ne_nil _ _ e) (fun _ hq => nomatch hq) (fun a b c => (a.append c).append b) (fun _ _ _ _ _ _ us mv ws h1 h2 h3 => match us, mv, ws, h1, h2, h3 with | [_], [], [_, _, _, _, _, _, _, _, _, _], _, _, _ => rfl),
    n_ValueError := He.free_ok X G (cd.fact 10 (f := .free "ValueError") rfl),
    n_abs := He.free_ok X G (cd.fact 11 (f := .free "abs") rfl),
    n_int := He.free_ok X G (cd.fact 12 (f := .free "int") rfl),
    n_isinstance := He.free_ok X G (cd.fact 13 (f := .free "isinstance") rfl),
    n_len := He.free_ok X G (cd.fact 14 (f := .free "len") rfl),
    n_list := He.free_ok X G (cd.fact 15 (f := .free "list") rfl),
    n_max := He.free_ok X G (cd.fact 16 (f := .free "max") rfl),
    n_tuple := He.free_ok X G (cd.fact 17 (f := .free "tuple") rfl),
    t_MOST_CELLS := ti0, c_MOST_CELLS := hi0,
    t_MOST_LENGTH := ti1, c_MOST_LENGTH := hi1 }
  exact FnOk.g (ok_law T)
end W

open PySem PySem.W PyProof.Rows
set_option maxRecDepth 100000 in
set_option maxHeartbeats 0 in
theorem PySem.Challenge.cw_footpath_k01_settings_holds : PySem.Challenge.rw_footpath_k01_settings.Holds := by
  w_on; o_law
  refine HandSHeadRun.head_any (r := OpenLaw.row PySem.Challenge.rw_footpath_k01_settings) (q := view (OpenLaw.row PySem.Challenge.rw_footpath_k01_settings).prog [18]) (H := W.hk_) (ob := W.ob_) (M := 4000) (loose := W.loose_) (d := HandSHeadRun.topDef (OpenLaw.row PySem.Challenge.rw_footpath_k01_settings).prog 18) (kwd := []) W.ob_eq
    (by kernel_rfl) (fun s => by kernel_rfl) W.run_ (by kernel_rfl) (by kernel_rfl) (by kernel_rfl) (by rfl) (by first | assumption | decide +kernel) (by decide +kernel) ⟨rfl, rfl, rfl, rfl, rfl, by decide +kernel⟩ ?hw ?hc
  case hw => w_witness2
  case hc =>
    refine Mi.walkX (l := PySem.Challenge.rw_footpath_k01_settings) (k := 7) (x := "_law_script") (mf := W.m_law) rfl (by kernel_rfl) ⟨rfl, by decide, by decide⟩ ?F W.law_true
    intro w mg fa hp Y G hmg0
    obtain ⟨K, KX, c⟩ := Y
    have hmg : mg ("law" : PySem.Str) = some (.ref fa) := by
      have e : (HandSHeadRun.topDef (OpenLaw.row PySem.Challenge.rw_footpath_k01_settings).prog 18).name = ("law" : PySem.Str) := by kernel_rfl
      rw [← e]
      exact hmg0
    exact W.facts KX G hmg c
