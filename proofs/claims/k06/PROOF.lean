import PyProof.Rows.All
import Wide.All
import OpenK.AllK
import Wide.FinOn
import HandS.ForMost
import HandS.Wide
import HandS.Flow
import HandS.Lambda
import HandS.EndTab
import HandS.IsInst
import HandS.NoneIn
import HandS.Deep
import KE.SortData
import KE.SortKeyHeap
import PyProof.ReprLen
import HandS.Dict
import HandS.Iter
import KE.KDictSum
import KE.KDictCopyH
import KE.KDictExact
import KE.KRevSl
import PyProof.Transfer
import HandS.Style
import KE.DataMinMax
import KE.DatumOrd
import HandS.MakeKwOnly
import HandS.HeadHook4
import HandS.HeadWalk
import HandS.Sort
import HandS.TupLen
import PySem.Challenge.RW_footpath_k06_extents
import HandS.Head2
set_option Elab.async false
set_option linter.all false
set_option maxRecDepth 100000
/-! Mi, part A: data, the relation to the heap, the state. -/
namespace Mi
open PySem PySem.Spec PyProof.Rows L2

/-- what the walk knows beside the fragment: the tables of code objects, the classes by name -/
structure Tbs where
  t : List (Addr × Str)
  c : List (Str × Addr)
structure Kx where
  k : PySem.W.Frag
  tb : Tbs
instance : Coe Kx PySem.W.Frag := ⟨Kx.k⟩
@[reducible] def kx (X : Cx) (Tb : Tbs) : Kx := ⟨X.K, Tb⟩
/-- data. kt: a written tuple; lst: a list that is not changed any more; scr: the script; ref: an object of the shared heap; own: the object that a slot of the frame owns -/
inductive D where
  | non | bl (b : Bool) | int (i : Int) | str (x : Str)
  | tup (xs : List D) | kt (xs : List D) | lst (xs : List D) | scr (xs : List D)
  | ref (n : Nat) | own (i : Nat)
  | dk (kvs : List (Key × D)) | dt (kvs : List (List Key × D))
  | ins (nm : Str) (fs : List (Str × D))

mutual
inductive Rp (K : Kx) (F : Hp) (rho : List Addr) : D → V → Prop
  | non : Rp K F rho .non .non
  | bl (b : Bool) : Rp K F rho (.bl b) (.bl b)
  | int (i : Int) : Rp K F rho (.int i) (.int i)
  | str (x : Str) : Rp K F rho (.str x) (.str x)
  | tup {a : Addr} {xs : List V} {ds : List D} : F a = some (.tup xs) → Rps K F rho ds xs → Rp K F rho (.tup ds) (.ref a)
  | kt {a : Addr} {xs : List V} {ds : List D} : SqT K F a xs → Rps K F rho ds xs → Rp K F rho (.kt ds) (.ref a)
  | lst {a : Addr} {xs : List V} {ds : List D} : F a = some (.lst xs) → Rps K F rho ds xs → Rp K F rho (.lst ds) (.ref a)
  | scr {a : Addr} {xs : List V} {ds : List D} : SqL K F a xs → Rps K F rho ds xs → Rp K F rho (.scr ds) (.ref a)
  | ref {n : Nat} {a : Addr} : rho[n]? = some a → Rp K F rho (.ref n) (.ref a)
  | dk {a : Addr} {es : List (Key × V)} {kvs : List (Key × D)} {o : Obj} : F a = some (.frz o (.dK es)) → es.map Prod.fst = kvs.map Prod.fst → Rps K F rho (kvs.map Prod.snd) (es.map Prod.snd) → Rp K F rho (.dk kvs) (.ref a)
  | dt {a : Addr} {es : List (List Key × V)} {kvs : List (List Key × D)} {o : Obj} : F a = some (.frz o (.dT es)) → es.map Prod.fst = kvs.map Prod.fst → Rps K F rho (kvs.map Prod.snd) (es.map Prod.snd) → Rp K F rho (.dt kvs) (.ref a)
  | ins {nm : Str} {a C dx : Addr} {es : List (Str × V)} {fs : List (Str × D)} : (nm, C) ∈ K.tb.c → F a = some (.ins C dx es) → es.map Prod.fst = fs.map Prod.fst → Rps K F rho (fs.map Prod.snd) (es.map Prod.snd) → Rp K F rho (.ins nm fs) (.ref a)
inductive Rps (K : Kx) (F : Hp) (rho : List Addr) : List D → List V → Prop
  | nil : Rps K F rho [] []
  | cons {d : D} {v : V} {ds : List D} {vs : List V} : Rp K F rho d v → Rps K F rho ds vs → Rps K F rho (d :: ds) (v :: vs)
end

theorem Same.rd {H H' : Hp} {a : Addr} {u : HO} (e : Same H H') (h : Rd H a u) : Rd H' a u := by
  rcases h with h | ⟨o, h⟩
  · exact .inl (e _ _ h)
  · exact .inr ⟨o, e _ _ h⟩
theorem Same.sqt {K : Kx} {H H' : Hp} {a : Addr} {xs : List V} (e : Same H H') (h : SqT K H a xs) : SqT K H' a xs := by
  rcases h with (h | ⟨o, h⟩) | h
  · exact .inl (.inl (e _ _ h))
  · exact .inl (.inr ⟨o, e _ _ h⟩)
  · exact .inr h

section
variable {K : Kx} {F F' : Hp} {rho rho' : List Addr}
theorem pre_get {a : Addr} {n : Nat} (p : rho <+: rho') (h : rho[n]? = some a) : rho'[n]? = some a := by
  obtain ⟨t, rfl⟩ := p
  rw [List.getElem?_append_left (List.getElem?_eq_some_iff.mp h).1]
  exact h
mutual
theorem Rp.mono (e : Same F F') (p : rho <+: rho') : ∀ {d : D} {v : V}, Rp K F rho d v → Rp K F' rho' d v
  | _, _, .non => .non
  | _, _, .bl b => .bl b
  | _, _, .int i => .int i
  | _, _, .str x => .str x
  | _, _, .tup h r => .tup (e _ _ h) (Rps.mono e p r)
  | _, _, .kt h r => .kt (Same.sqt e h) (Rps.mono e p r)
  | _, _, .lst h r => .lst (e _ _ h) (Rps.mono e p r)
  | _, _, .scr h r => .scr (e.seq h) (Rps.mono e p r)
  | _, _, .ref h => .ref (pre_get p h)
  | _, _, .dk h k r => .dk (e _ _ h) k (Rps.mono e p r)
  | _, _, .dt h k r => .dt (e _ _ h) k (Rps.mono e p r)
  | _, _, .ins m h k r => .ins m (e _ _ h) k (Rps.mono e p r)
theorem Rps.mono (e : Same F F') (p : rho <+: rho') : ∀ {ds : List D} {vs : List V}, Rps K F rho ds vs → Rps K F' rho' ds vs
  | _, _, .nil => .nil
  | _, _, .cons h r => .cons (Rp.mono e p h) (Rps.mono e p r)
end
theorem Rps.length : ∀ {ds : List D} {vs : List V}, Rps K F rho ds vs → ds.length = vs.length
  | _, _, .nil => rfl
  | _, _, .cons _ r => by rw [List.length_cons, List.length_cons, Rps.length r]
theorem Rps.get : ∀ {ds : List D} {vs : List V} {i : Nat} {d : D}, Rps K F rho ds vs → ds[i]? = some d → ∃ v, vs[i]? = some v ∧ Rp K F rho d v
  | _, _, _, _, .nil, h => by simp at h
  | _, _, 0, d, .cons r _, h => by
    simp at h
    subst h
    exact ⟨_, rfl, r⟩
  | _, _, i + 1, d, .cons _ r, h => by
    obtain ⟨v, h1, h2⟩ := Rps.get (i := i) (d := d) r (by simpa using h)
    exact ⟨v, by simpa using h1, h2⟩
theorem Rps.get' : ∀ {ds : List D} {vs : List V} {i : Nat} {v : V}, Rps K F rho ds vs → vs[i]? = some v → ∃ d, ds[i]? = some d ∧ Rp K F rho d v
  | _, _, _, _, .nil, h => by simp at h
  | _, _, 0, d, .cons r _, h => by
    simp at h
    subst h
    exact ⟨_, rfl, r⟩
  | _, _, i + 1, d, .cons _ r, h => by
    obtain ⟨v, h1, h2⟩ := Rps.get' (i := i) (v := d) r (by simpa using h)
    exact ⟨v, by simpa using h1, h2⟩
theorem Rps.append : ∀ {ds es : List D} {vs us : List V}, Rps K F rho ds vs → Rps K F rho es us → Rps K F rho (ds ++ es) (vs ++ us)
  | _, _, _, _, .nil, s => s
  | _, _, _, _, .cons h r, s => .cons h (Rps.append r s)
theorem Rps.one {d : D} {v : V} (h : Rp K F rho d v) : Rps K F rho [d] [v] := .cons h .nil
theorem Rps.set {d : D} {v : V} (h : Rp K F rho d v) : ∀ {ds : List D} {vs : List V} (i : Nat), Rps K F rho ds vs → Rps K F rho (ds.set i d) (vs.set i v)
  | _, _, _, .nil => .nil
  | _, _, 0, .cons _ r => .cons h r
  | _, _, i + 1, .cons q r => .cons q (Rps.set h i r)
theorem Rps.eraseIdx : ∀ {ds : List D} {vs : List V} (i : Nat), Rps K F rho ds vs → Rps K F rho (ds.eraseIdx i) (vs.eraseIdx i)
  | _, _, _, .nil => .nil
  | _, _, 0, .cons _ r => r
  | _, _, i + 1, .cons q r => .cons q (Rps.eraseIdx i r)
theorem Rps.take : ∀ {ds : List D} {vs : List V} (i : Nat), Rps K F rho ds vs → Rps K F rho (ds.take i) (vs.take i)
  | _, _, 0, _ => .nil
  | _, _, _ + 1, .nil => .nil
  | _, _, i + 1, .cons q r => .cons q (Rps.take i r)
theorem Rps.drop : ∀ {ds : List D} {vs : List V} (i : Nat), Rps K F rho ds vs → Rps K F rho (ds.drop i) (vs.drop i)
  | _, _, 0, r => r
  | _, _, _ + 1, .nil => .nil
  | _, _, i + 1, .cons _ r => Rps.drop i r
theorem Rps.dropLast {ds : List D} {vs : List V} (r : Rps K F rho ds vs) : Rps K F rho ds.dropLast vs.dropLast := by
  rw [List.dropLast_eq_take, List.dropLast_eq_take, r.length]
  exact r.take _
theorem Rps.reverse : ∀ {ds : List D} {vs : List V}, Rps K F rho ds vs → Rps K F rho ds.reverse vs.reverse
  | _, _, .nil => .nil
  | _, _, .cons h r => by
    rw [List.reverse_cons, List.reverse_cons]
    exact (Rps.reverse r).append (.one h)
theorem Rps.ints : ∀ (ns : List Int), Rps K F rho (ns.map D.int) (ns.map V.int)
  | [] => .nil
  | n :: ns => .cons (.int n) (Rps.ints ns)
theorem Rps.ints_inv : ∀ {ns : List Int} {vs : List V}, Rps K F rho (ns.map D.int) vs → vs = ns.map V.int
  | [], _, .nil => rfl
  | n :: ns, _, .cons h r => by
    cases h
    rw [Rps.ints_inv r]
    rfl
end

/-- an object that may be changed, by its content -/
def Ob (K : Kx) (F : Hp) (rho : List Addr) (H : Hp) (a : Addr) : D → Prop
  | .lst ds => ∃ xs, H a = some (.lst xs) ∧ Rps K F rho ds xs
  | .dk kvs => ∃ es : List (Key × V), H a = some (.dK es) ∧ es.map Prod.fst = kvs.map Prod.fst ∧ Rps K F rho (kvs.map Prod.snd) (es.map Prod.snd)
  | .dt kvs => ∃ es : List (List Key × V), H a = some (.dT es) ∧ es.map Prod.fst = kvs.map Prod.fst ∧ Rps K F rho (kvs.map Prod.snd) (es.map Prod.snd)
  | .ins nm fs => ∃ (C dx : Addr) (es : List (Str × V)), (nm, C) ∈ K.tb.c ∧ H a = some (.ins C dx es) ∧ es.map Prod.fst = fs.map Prod.fst ∧ Rps K F rho (fs.map Prod.snd) (es.map Prod.snd)
  | _ => False

/-- a slot of the frame -/
inductive Sl where
  | no | val (d : D) | own (d : D)
/-- the state: the frame's slots, the shared heap -/
structure Z where
  s : List Sl
  h : List D

/-- the tables: each code object that one tells is known for ever -/
structure TbOk (K : Kx) (F H : Hp) : Prop where
  tb : ∀ p ∈ K.tb.t, ∃ ps : Array Value, H p.1 = some (.tbl ps) ∧ TriplesOk ps.toList ∧ ∀ (pos : Pos) (cv : Value), codeAmong pos ps.toList = some cv → ∃ c, cv = .ref c ∧ F c = some (LamX.CodeO c p.2)
  un : ∀ p ∈ K.tb.t, ∀ q ∈ K.tb.t, p.1 = q.1 → p.2 = q.2
  nf : ∀ p ∈ K.tb.t, F p.1 = none
/-- the shared heap -/
structure Rh (K : Kx) (F : Hp) (rho : List Addr) (h : List D) (H : Hp) : Prop where
  fro : Same F H
  len : h.length = rho.length
  obs : ∀ (n : Nat) (d : D) (a : Addr), h[n]? = some d → rho[n]? = some a → Ob K F rho H a d
  inj : ∀ (i j : Nat) (a : Addr), rho[i]? = some a → rho[j]? = some a → i = j
  nf : ∀ (n : Nat) (a : Addr), rho[n]? = some a → F a = none
  tb : TbOk K F H
  tr : ∀ p ∈ K.tb.t, ∀ n : Nat, ¬ rho[n]? = some p.1

/-- the base of a frame (or of a part of it): what may be changed is mu or new -/
structure Bs where
  H0 : Hp
  F0 : Hp
  r0 : List Addr
  mu : Addr → Prop

def SlOk (K : Kx) (F : Hp) (rho : List Addr) (om : Nat → Option Addr) (H : Hp) (i : Nat) (o : Option (Option V)) : Sl → Prop
  | .no => True
  | .val d => ∃ v, o = some (some v) ∧ Rp K F rho d v
  | .own d => ∃ a, om i = some a ∧ o = some (some (.ref a)) ∧ Ob K F rho H a d

/-- no tuple -/
@[reducible] def NT (o : HO) : Prop := ∀ xs, o ≠ .tup xs
structure Rl (K : Kx) (B : Bs) (F : Hp) (rho : List Addr) (om : Nat → Option Addr) (z : Z) (σ : L2.St) (H : Hp) : Prop where
  rh : Rh K F rho z.h H
  len : z.s.length = σ.length
  sl : ∀ (i : Nat) (x : Sl), z.s[i]? = some x → SlOk K F rho om H i σ[i]? x
  oj : ∀ (i j : Nat) (a : Addr), om i = some a → om j = some a → i = j
  orr : ∀ (i n : Nat) (a : Addr), om i = some a → ¬ rho[n]? = some a
  off : ∀ (i : Nat) (a : Addr), om i = some a → F a = none
  oth : ∀ (i : Nat) (a : Addr), om i = some a → ∃ o, H a = some o ∧ NT o
  frm : ∀ (a : Addr) (o : HO), B.H0 a = some o → ¬ B.mu a → H a = some o
  exf : Same B.F0 F
  exr : B.r0 <+: rho
  nF : ∀ (a : Addr) (o : HO), B.H0 a = some o → NT o → B.F0 a = none → ¬ B.mu a → F a = none
  nr : ∀ (n : Nat) (a : Addr), rho[n]? = some a → B.mu a ∨ B.H0 a = none
  no : ∀ (i : Nat) (a : Addr), om i = some a → B.mu a ∨ B.H0 a = none
  ow : ∀ (i : Nat) (a : Addr), om i = some a → ∃ d, z.s[i]? = some (.own d)
  to : ∀ p ∈ K.tb.t, ∀ i : Nat, ¬ om i = some p.1
  mt : ∀ p ∈ K.tb.t, B.mu p.1

/-- a value in passing: it may be the object that a slot owns -/
inductive Rv (K : Kx) (F : Hp) (rho : List Addr) (om : Nat → Option Addr) : D → V → Prop
  | pure {d : D} {v : V} : Rp K F rho d v → Rv K F rho om d v
  | own {i : Nat} {a : Addr} : om i = some a → Rv K F rho om (.own i) (.ref a)
theorem Rv.mono {K : Kx} {F F' : Hp} {rho rho' : List Addr} {om : Nat → Option Addr} (e : Same F F') (p : rho <+: rho') {d : D} {v : V} (h : Rv K F rho om d v) : Rv K F' rho' om d v := by
  cases h with
  | pure h => exact .pure (h.mono e p)
  | own h => exact .own h

section
variable {K : Kx} {B : Bs} {F F' : Hp} {rho rho' : List Addr} {om om' : Nat → Option Addr} {z z' : Z} {σ σ' : L2.St} {H H' : Hp} {a p : Addr} {d : D} {v : V}
theorem Ob.mono (e : Same F F') (q : rho <+: rho') (h1 : H' a = H a) (h : Ob K F rho H a d) : Ob K F' rho' H' a d := by
  cases d <;> try exact h.elim
  · obtain ⟨xs, e1, r⟩ := h
    exact ⟨xs, h1.trans e1, r.mono e q⟩
  · obtain ⟨es, e1, k, r⟩ := h
    exact ⟨es, h1.trans e1, k, r.mono e q⟩
  · obtain ⟨es, e1, k, r⟩ := h
    exact ⟨es, h1.trans e1, k, r.mono e q⟩
  · obtain ⟨C, dx, es, m, e1, k, r⟩ := h
    exact ⟨C, dx, es, m, h1.trans e1, k, r.mono e q⟩
theorem Ob.there (h : Ob K F rho H a d) : ∃ o, H a = some o ∧ NT o := by
  cases d <;> try exact h.elim
  · obtain ⟨xs, e1, r⟩ := h
    exact ⟨_, e1, fun _ e => nomatch e⟩
  · obtain ⟨es, e1, r⟩ := h
    exact ⟨_, e1, fun _ e => nomatch e⟩
  · obtain ⟨es, e1, r⟩ := h
    exact ⟨_, e1, fun _ e => nomatch e⟩
  · obtain ⟨C, dx, es, m, e1, r⟩ := h
    exact ⟨_, e1, fun _ e => nomatch e⟩
theorem Rh.there (r : Rh K F rho z.h H) {n : Nat} (h : rho[n]? = some a) : ∃ o, H a = some o ∧ NT o := by
  have hl : n < z.h.length := by rw [r.len]; exact (List.getElem?_eq_some_iff.mp h).1
  exact (r.obs n z.h[n] a (List.getElem?_eq_getElem hl) h).there
theorem Rl.fresh0 (R : Rl K B F rho om z σ H) (h : H p = none) : B.H0 p = none ∨ B.mu p := by
  cases q : B.H0 p with
  | none => exact .inl rfl
  | some o =>
    by_cases m : B.mu p
    · exact .inr m
    · rw [R.frm p o q m] at h
      cases h
end
theorem Ob.nt {K : Kx} {F H : Hp} {rho : List Addr} {a : Addr} {d : D} {o : HO} (h : Ob K F rho H a d) (e : H a = some o) : NT o := by
  obtain ⟨o', e', n⟩ := h.there
  rw [e] at e'
  cases e'
  exact n
theorem upd_same' {H : Hp} {a : Addr} {o : HO} : upd H a o a = some o := upd_same
theorem Same.newu {H : Hp} {p : Addr} {o : HO} (h : H p = none) : Same H (upd H p o) := fun a u e => by
  rw [upd_ne (ne_of_none e h)]
  exact e
theorem Same.both {F H : Hp} {p : Addr} {o : HO} (e : Same F H) (h : H p = none) : Same (upd F p o) (upd H p o) := fun a u q => by
  by_cases c : a = p
  · subst c
    rw [upd_same] at q
    rw [upd_same]
    exact q
  · rw [upd_ne c] at q
    rw [upd_ne c]
    exact e _ _ q
theorem Same.upd_out {F H : Hp} {p : Addr} {o : HO} (e : Same F H) (h : F p = none) : Same F (upd H p o) := fun a u q => by
  rw [upd_ne (ne_of_none q h)]
  exact e _ _ q
theorem Same.noneOf {F H : Hp} (e : Same F H) {p : Addr} (h : H p = none) : F p = none := e.free h
end Mi

set_option Elab.async false
set_option linter.all false
set_option maxRecDepth 100000
/-! Mi, part B: how the state goes on: a new object, a slot that is set, an object that is changed, a call. -/
namespace Mi
open PySem PySem.Spec PyProof.Rows L2

/-- an object that is there, of which nobody knows -/
structure Fresh (K : Kx) (B : Bs) (F : Hp) (rho : List Addr) (om : Nat → Option Addr) (H : Hp) (p : Addr) : Prop where
  f : F p = none
  r : ∀ n : Nat, ¬ rho[n]? = some p
  o : ∀ i : Nat, ¬ om i = some p
  b : B.mu p ∨ B.H0 p = none
  t : ∃ u, H p = some u ∧ NT u
  k : ∀ q ∈ K.tb.t, ¬ q.1 = p

def omSet (om : Nat → Option Addr) (i : Nat) (x : Option Addr) : Nat → Option Addr := fun j => if j = i then x else om j
theorem omSet_eq {om : Nat → Option Addr} {i : Nat} {x : Option Addr} : omSet om i x i = x := if_pos rfl
theorem omSet_ne {om : Nat → Option Addr} {i j : Nat} {x : Option Addr} (h : ¬ j = i) : omSet om i x j = om j := if_neg h
theorem omSet_none {om : Nat → Option Addr} {i j : Nat} {a : Addr} (h : omSet om i none j = some a) : ¬ j = i ∧ om j = some a := by
  by_cases c : j = i
  · subst c
    rw [omSet_eq] at h
    cases h
  · rw [omSet_ne c] at h
    exact ⟨c, h⟩

section
variable {K : Kx} {B : Bs} {F F' : Hp} {rho rho' : List Addr} {om om' : Nat → Option Addr} {z z' : Z} {σ σ' : L2.St} {H H' : Hp} {a p : Addr} {d : D} {v : V} {o : HO}

theorem SlOk.mono {i : Nat} {o : Option (Option V)} {x : Sl} (e : Same F F') (q : rho <+: rho') (h : SlOk K F rho om H i o x) (hk : ∀ a, om i = some a → H' a = H a) (ho : om' i = om i) : SlOk K F' rho' om' H' i o x := by
  cases x with
  | no => trivial
  | val d =>
    obtain ⟨v, e1, r⟩ := h
    exact ⟨v, e1, r.mono e q⟩
  | own d =>
    obtain ⟨a, e1, e2, r⟩ := h
    exact ⟨a, ho.trans e1, e2, r.mono e q (hk a e1)⟩
theorem Rh.mono1 {h : List D} (r : Rh K F rho h H) (e : Same F F') (fro : Same F' H') (hk : ∀ (n : Nat) a, rho[n]? = some a → H' a = H a) (nf : ∀ (n : Nat) a, rho[n]? = some a → F' a = none) (tb : TbOk K F' H') : Rh K F' rho h H' :=
  ⟨fro, r.len, fun n d a h1 h2 => (r.obs n d a h1 h2).mono e (List.prefix_refl _) (hk n a h2), r.inj, nf, tb, r.tr⟩
theorem TbOk.mono (t : TbOk K F H) (e : Same F F') (hk : ∀ p ∈ K.tb.t, H' p.1 = H p.1) (hf : ∀ p ∈ K.tb.t, F' p.1 = none) : TbOk K F' H' := by
  refine ⟨fun p hp => ?_, t.un, hf⟩
  obtain ⟨ps, h1, h2, h3⟩ := t.tb p hp
  refine ⟨ps, (hk p hp).trans h1, h2, fun pos cv hc => ?_⟩
  obtain ⟨c, e1, e2⟩ := h3 pos cv hc
  exact ⟨c, e1, e _ _ e2⟩
theorem TbOk.there (t : TbOk K F H) {q : Addr × Str} (hq : q ∈ K.tb.t) : ∃ o, H q.1 = some o := by
  obtain ⟨ps, h1, _⟩ := t.tb q hq
  exact ⟨_, h1⟩
theorem TbOk.ne (t : TbOk K F H) (h : H p = none) : ∀ q ∈ K.tb.t, ¬ q.1 = p := fun q hq e => by
  obtain ⟨u, hu⟩ := t.there hq
  rw [e, h] at hu
  cases hu

/-- what is not there is nobody's -/
theorem Rl.out (R : Rl K B F rho om z σ H) (h : H p = none) : F p = none ∧ (∀ n : Nat, ¬ rho[n]? = some p) ∧ (∀ i : Nat, ¬ om i = some p) ∧ (B.mu p ∨ B.H0 p = none) ∧ (∀ q ∈ K.tb.t, ¬ q.1 = p) := by
  refine ⟨R.rh.fro.free h, fun n e => ?_, fun i e => ?_, (R.fresh0 h).symm, R.rh.tb.ne h⟩
  · obtain ⟨u, q, _⟩ := R.rh.there (z := z) e
    rw [h] at q
    cases q
  · obtain ⟨u, q, _⟩ := R.oth i p e
    rw [h] at q
    cases q
/-- a new object, known to nobody -/
theorem Rl.new (R : Rl K B F rho om z σ H) (h : H p = none) (hn : NT o := by exact fun _ e => nomatch e) : Rl K B F rho om z σ (upd H p o) ∧ Fresh K B F rho om (upd H p o) p := by
  obtain ⟨h1, h2, h3, h4, h5⟩ := R.out h
  have nr : ∀ (n : Nat) a, rho[n]? = some a → a ≠ p := fun n a e q => h2 n (by rw [← q]; exact e)
  have no : ∀ (i : Nat) a, om i = some a → a ≠ p := fun i a e q => h3 i (by rw [← q]; exact e)
  refine ⟨⟨R.rh.mono1 (fun _ _ e => e) (Same.upd_out R.rh.fro h1) (fun n a e => upd_ne (nr n a e)) R.rh.nf (R.rh.tb.mono (fun _ _ e => e) (fun q hq => upd_ne (h5 q hq)) R.rh.tb.nf), R.len, fun i x e => (R.sl i x e).mono (fun _ _ e => e) (List.prefix_refl _) (fun a e => upd_ne (no i a e)) rfl, R.oj, R.orr, R.off,
    fun i a e => by rw [upd_ne (no i a e)]; exact R.oth i a e, fun a u e m => ?_, R.exf, R.exr, R.nF, R.nr, R.no, R.ow, R.to, R.mt⟩, ⟨h1, h2, h3, h4, ⟨_, upd_same, hn⟩, h5⟩⟩
  have q := R.frm a u e m
  rw [upd_ne (ne_of_none q h)]
  exact q
/-- a known object of nobody's is laid down for ever -/
theorem Rl.lay (R : Rl K B F rho om z σ H) (h : Fresh K B F rho om H p) (hp : H p = some o) : Rl K B (upd F p o) rho om z σ H ∧ Same F (upd F p o) := by
  have nr : ∀ (n : Nat) a, rho[n]? = some a → a ≠ p := fun n a e q => h.r n (by rw [← q]; exact e)
  have no : ∀ (i : Nat) a, om i = some a → a ≠ p := fun i a e q => h.o i (by rw [← q]; exact e)
  have s1 : Same F (upd F p o) := Same.newu h.f
  refine ⟨⟨R.rh.mono1 s1 (fun a u e => ?_) (fun _ _ _ => rfl) (fun n a e => by rw [upd_ne (nr n a e)]; exact R.rh.nf n a e) (R.rh.tb.mono s1 (fun _ _ => rfl) fun q hq => by rw [upd_ne (h.k q hq)]; exact R.rh.tb.nf q hq), R.len, fun i x e => (R.sl i x e).mono s1 (List.prefix_refl _) (fun _ _ => rfl) rfl, R.oj, R.orr,
    fun i a e => by rw [upd_ne (no i a e)]; exact R.off i a e, R.oth, R.frm, R.exf.trans s1, R.exr, fun a u e1 nt e2 m' => ?_, R.nr, R.no, R.ow, R.to, R.mt⟩, s1⟩
  · by_cases c : a = p
    · subst c
      rw [upd_same] at e
      rw [hp]
      exact e
    · rw [upd_ne c] at e
      exact R.rh.fro a u e
  · have c : a ≠ p := fun c => by
      subst c
      rcases h.b with q | q
      · exact m' q
      · rw [q] at e1
        cases e1
    rw [upd_ne c]
    exact R.nF a u e1 nt e2 m'
/-- a tuple that stands is known from now on -/
theorem Rl.layT {xs : List V} (R : Rl K B F rho om z σ H) (hp : H p = some (.tup xs)) : ∃ F', Rl K B F' rho om z σ H ∧ Same F F' ∧ F' p = some (.tup xs) ∧ ∀ a o, H a = some o → NT o → F a = none → F' a = none := by
  cases hf : F p with
  | some o =>
    have e := R.rh.fro _ _ hf
    rw [hp] at e
    cases e
    exact ⟨F, R, Same.refl F, hf, fun _ _ _ _ n => n⟩
  | none =>
    have nr : ∀ (n : Nat) a, rho[n]? = some a → a ≠ p := fun n a e c => by
      obtain ⟨u, q, nt⟩ := R.rh.there (z := z) e
      rw [c, hp] at q
      cases q
      exact nt _ rfl
    have no : ∀ (i : Nat) a, om i = some a → a ≠ p := fun i a e c => by
      obtain ⟨u, q, nt⟩ := R.oth i a e
      rw [c, hp] at q
      cases q
      exact nt _ rfl
    have nk : ∀ q ∈ K.tb.t, q.1 ≠ p := fun q hq c => by
      obtain ⟨ps, h1, _⟩ := R.rh.tb.tb q hq
      rw [c, hp] at h1
      cases h1
    have s1 : Same F (upd F p (.tup xs)) := Same.newu hf
    refine ⟨_, ⟨R.rh.mono1 s1 (fun a u e => ?_) (fun _ _ _ => rfl) (fun n a e => by rw [upd_ne (nr n a e)]; exact R.rh.nf n a e) (R.rh.tb.mono s1 (fun _ _ => rfl) fun q hq => by rw [upd_ne (nk q hq)]; exact R.rh.tb.nf q hq), R.len, fun i x e => (R.sl i x e).mono s1 (List.prefix_refl _) (fun _ _ => rfl) rfl, R.oj, R.orr,
      fun i a e => by rw [upd_ne (no i a e)]; exact R.off i a e, R.oth, R.frm, R.exf.trans s1, R.exr, fun a u e1 nt e2 m => ?_, R.nr, R.no, R.ow, R.to, R.mt⟩, s1, upd_same, fun a o e nt n => ?_⟩
    · by_cases c : a = p
      · subst c
        rw [upd_same] at e
        rw [hp]
        exact e
      · rw [upd_ne c] at e
        exact R.rh.fro a u e
    · have c : a ≠ p := fun c => by
        have q := R.frm a u e1 m
        rw [c, hp] at q
        cases q
        exact nt _ rfl
      rw [upd_ne c]
      exact R.nF a u e1 nt e2 m
    · have c : a ≠ p := fun c => by
        rw [c, hp] at e
        cases e
        exact nt _ rfl
      rw [upd_ne c]
      exact n
/-- .. at once -/
theorem Rl.alloc (R : Rl K B F rho om z σ H) (h : H p = none) : ∃ F', Rl K B F' rho om z σ (upd H p o) ∧ Same F F' ∧ F' p = some o := by
  obtain ⟨h1, h2, h3, h4, h5⟩ := R.out h
  have nr : ∀ (n : Nat) a, rho[n]? = some a → a ≠ p := fun n a e q => h2 n (by rw [← q]; exact e)
  have no : ∀ (i : Nat) a, om i = some a → a ≠ p := fun i a e q => h3 i (by rw [← q]; exact e)
  have s1 : Same F (upd F p o) := Same.newu h1
  refine ⟨upd F p o, ⟨R.rh.mono1 s1 (Same.both R.rh.fro h) (fun n a e => upd_ne (nr n a e)) (fun n a e => by rw [upd_ne (nr n a e)]; exact R.rh.nf n a e) (R.rh.tb.mono s1 (fun q hq => upd_ne (h5 q hq)) fun q hq => by rw [upd_ne (h5 q hq)]; exact R.rh.tb.nf q hq), R.len, fun i x e => (R.sl i x e).mono s1 (List.prefix_refl _) (fun a e => upd_ne (no i a e)) rfl, R.oj, R.orr,
    fun i a e => by rw [upd_ne (no i a e)]; exact R.off i a e, fun i a e => by rw [upd_ne (no i a e)]; exact R.oth i a e, fun a u e m => ?_, R.exf.trans s1, R.exr, fun a u e1 nt e2 m => ?_, R.nr, R.no, R.ow, R.to, R.mt⟩, s1, upd_same⟩
  · have q := R.frm a u e m
    rw [upd_ne (ne_of_none q h)]
    exact q
  · have q := R.frm a u e1 m
    rw [upd_ne (ne_of_none q h)]
    exact R.nF a u e1 nt e2 m
/-- a slot is set to a value -/
theorem Rl.setVal (R : Rl K B F rho om z σ H) (i : Nat) (r : Rp K F rho d v) : Rl K B F rho (omSet om i none) ⟨z.s.set i (.val d), z.h⟩ (σ.set i (some v)) H := by
  refine ⟨R.rh, by simp only [List.length_set]; exact R.len, fun j x e => ?_, fun a b c e1 e2 => R.oj a b c (omSet_none e1).2 (omSet_none e2).2, fun a b c e => R.orr a b c (omSet_none e).2, fun a c e => R.off a c (omSet_none e).2, fun a c e => R.oth a c (omSet_none e).2,
    R.frm, R.exf, R.exr, R.nF, R.nr, fun a c e => R.no a c (omSet_none e).2, fun j a e => by
      obtain ⟨c, e⟩ := omSet_none e
      obtain ⟨d', q⟩ := R.ow j a e
      exact ⟨d', by rw [← q]; exact List.getElem?_set_ne (Ne.symm c)⟩, fun p hp j e => R.to p hp j (omSet_none e).2, R.mt⟩
  have e : (z.s.set i (.val d))[j]? = some x := e
  by_cases c : j = i
  · subst c
    have hl : j < z.s.length := by
      have := (List.getElem?_eq_some_iff.mp e).1
      simpa using this
    rw [List.getElem?_set_self hl] at e
    cases e
    exact ⟨v, List.getElem?_set_self (by rw [← R.len]; exact hl), r⟩
  · rw [List.getElem?_set_ne (Ne.symm c)] at e
    rw [List.getElem?_set_ne (Ne.symm c)]
    exact (R.sl j x e).mono (fun _ _ e => e) (List.prefix_refl _) (fun _ _ => rfl) (omSet_ne c)
/-- a slot takes an object of nobody's -/
theorem Rl.setOwn (R : Rl K B F rho om z σ H) (i : Nat) (hi : i < z.s.length) (h : Fresh K B F rho om H p) (r : Ob K F rho H p d) : Rl K B F rho (omSet om i (some p)) ⟨z.s.set i (.own d), z.h⟩ (σ.set i (some (.ref p))) H := by
  have cs : ∀ {j : Nat} {a : Addr}, omSet om i (some p) j = some a → (j = i ∧ a = p) ∨ (¬ j = i ∧ om j = some a) := fun {j a} e => by
    by_cases c : j = i
    · subst c
      rw [omSet_eq] at e
      cases e
      exact .inl ⟨rfl, rfl⟩
    · rw [omSet_ne c] at e
      exact .inr ⟨c, e⟩
  refine ⟨R.rh, by simp only [List.length_set]; exact R.len, fun j x e => ?_, fun a b c e1 e2 => ?_, fun a b c e => ?_, fun a c e => ?_, fun a c e => ?_, R.frm, R.exf, R.exr, R.nF, R.nr, fun a c e => ?_, fun j a e => ?_, fun q hq j e => ?_, R.mt⟩
  · have e : (z.s.set i (.own d))[j]? = some x := e
    by_cases c : j = i
    · subst c
      have hl : j < z.s.length := by
        have := (List.getElem?_eq_some_iff.mp e).1
        simpa using this
      rw [List.getElem?_set_self hl] at e
      cases e
      exact ⟨p, omSet_eq, List.getElem?_set_self (by rw [← R.len]; exact hl), r⟩
    · rw [List.getElem?_set_ne (Ne.symm c)] at e
      rw [List.getElem?_set_ne (Ne.symm c)]
      exact (R.sl j x e).mono (fun _ _ e => e) (List.prefix_refl _) (fun _ _ => rfl) (omSet_ne c)
  · rcases cs e1 with ⟨rfl, rfl⟩ | ⟨n1, q1⟩
    · rcases cs e2 with ⟨rfl, _⟩ | ⟨n2, q2⟩
      · rfl
      · exact absurd q2 (h.o b)
    · rcases cs e2 with ⟨rfl, rfl⟩ | ⟨n2, q2⟩
      · exact absurd q1 (h.o a)
      · exact R.oj a b c q1 q2
  · rcases cs e with ⟨rfl, rfl⟩ | ⟨n1, q1⟩
    · exact h.r b
    · exact R.orr a b c q1
  · rcases cs e with ⟨rfl, rfl⟩ | ⟨n1, q1⟩
    · exact h.f
    · exact R.off a c q1
  · rcases cs e with ⟨rfl, rfl⟩ | ⟨n1, q1⟩
    · exact h.t
    · exact R.oth a c q1
  · rcases cs e with ⟨rfl, rfl⟩ | ⟨n1, q1⟩
    · exact h.b
    · exact R.no a c q1
  · rcases cs e with ⟨rfl, rfl⟩ | ⟨n1, q1⟩
    · exact ⟨d, List.getElem?_set_self hi⟩
    · obtain ⟨d', q⟩ := R.ow j a q1
      exact ⟨d', by rw [← q]; exact List.getElem?_set_ne (Ne.symm n1)⟩
  · rcases cs e with ⟨_, q2⟩ | ⟨_, q2⟩
    · exact h.k q hq q2
    · exact R.to q hq j q2
/-- what a slot owns is nobody else's -/
theorem Rl.freshOwn (R : Rl K B F rho om z σ H) {i : Nat} (e : om i = some p) : Fresh K B F rho (omSet om i none) H p :=
  ⟨R.off i p e, fun n => R.orr i n p e, fun j q => (omSet_none q).1 (R.oj j i p (omSet_none q).2 e), R.no i p e, R.oth i p e, fun q hq c => R.to q hq i (by rw [c]; exact e)⟩
/-- a slot forgets -/
theorem Rl.forget (R : Rl K B F rho om z σ H) (i : Nat) : Rl K B F rho (omSet om i none) ⟨z.s.set i .no, z.h⟩ σ H := by
  refine ⟨R.rh, by simp only [List.length_set]; exact R.len, fun j x e => ?_, fun a b c e1 e2 => R.oj a b c (omSet_none e1).2 (omSet_none e2).2, fun a b c e => R.orr a b c (omSet_none e).2, fun a c e => R.off a c (omSet_none e).2, fun a c e => R.oth a c (omSet_none e).2,
    R.frm, R.exf, R.exr, R.nF, R.nr, fun a c e => R.no a c (omSet_none e).2, fun j a e => by
      obtain ⟨c, e⟩ := omSet_none e
      obtain ⟨d', q⟩ := R.ow j a e
      exact ⟨d', by rw [← q]; exact List.getElem?_set_ne (Ne.symm c)⟩, fun p hp j e => R.to p hp j (omSet_none e).2, R.mt⟩
  have e : (z.s.set i .no)[j]? = some x := e
  by_cases c : j = i
  · subst c
    have hl : j < z.s.length := by
      have := (List.getElem?_eq_some_iff.mp e).1
      simpa using this
    rw [List.getElem?_set_self hl] at e
    cases e
    trivial
  · rw [List.getElem?_set_ne (Ne.symm c)] at e
    exact (R.sl j x e).mono (fun _ _ e => e) (List.prefix_refl _) (fun _ _ => rfl) (omSet_ne c)
/-- a slot's object is changed -/
theorem Rl.mutOwn (R : Rl K B F rho om z σ H) {i : Nat} {d0 : D} (e : om i = some p) (hs : z.s[i]? = some (.own d0)) (r : Ob K F rho (upd H p o) p d) : Rl K B F rho om ⟨z.s.set i (.own d), z.h⟩ σ (upd H p o) := by
  have nr : ∀ (n : Nat) a, rho[n]? = some a → a ≠ p := fun n a q c => R.orr i n p e (by rw [← c]; exact q)
  have no : ∀ (j : Nat) a, ¬ j = i → om j = some a → a ≠ p := fun j a c q c2 => c (R.oj j i p (by rw [← c2]; exact q) e)
  refine ⟨R.rh.mono1 (fun _ _ e => e) (Same.upd_out R.rh.fro (R.off i p e)) (fun n a q => upd_ne (nr n a q)) R.rh.nf (R.rh.tb.mono (fun _ _ e => e) (fun q hq => upd_ne fun c => R.to q hq i (by rw [c]; exact e)) R.rh.tb.nf), by simp only [List.length_set]; exact R.len, fun j x q => ?_, R.oj, R.orr, R.off, fun j a q => ?_, fun a u q m => ?_, R.exf, R.exr, R.nF, R.nr, R.no, fun j a q => ?_, R.to, R.mt⟩
  · have q : (z.s.set i (.own d))[j]? = some x := q
    by_cases c : j = i
    · subst c
      have hl : j < z.s.length := (List.getElem?_eq_some_iff.mp hs).1
      rw [List.getElem?_set_self hl] at q
      cases q
      obtain ⟨a, e1, e2, _⟩ := R.sl j _ hs
      rw [e] at e1
      cases e1
      exact ⟨p, e, e2, r⟩
    · rw [List.getElem?_set_ne (Ne.symm c)] at q
      exact (R.sl j x q).mono (fun _ _ e => e) (List.prefix_refl _) (fun a h => upd_ne (no j a c h)) rfl
  · by_cases c : a = p
    · subst c
      exact ⟨_, upd_same, r.nt upd_same⟩
    · rw [upd_ne c]
      exact R.oth j a q
  · have c : a ≠ p := fun c => by
      subst c
      rcases R.no i a e with h | h
      · exact m h
      · rw [h] at q
        cases q
    rw [upd_ne c]
    exact R.frm a u q m
  · by_cases c : j = i
    · subst c
      exact ⟨d, List.getElem?_set_self (List.getElem?_eq_some_iff.mp hs).1⟩
    · obtain ⟨d', q2⟩ := R.ow j a q
      exact ⟨d', by rw [← q2]; exact List.getElem?_set_ne (Ne.symm c)⟩
/-- an object of the shared heap is changed -/
theorem Rl.mutRef (R : Rl K B F rho om z σ H) {n : Nat} (e : rho[n]? = some p) (r : Ob K F rho (upd H p o) p d) : Rl K B F rho om ⟨z.s, z.h.set n d⟩ σ (upd H p o) := by
  have no : ∀ (j : Nat) a, om j = some a → a ≠ p := fun j a q c => R.orr j n p (by rw [← c]; exact q) e
  have hn : n < z.h.length := by rw [R.rh.len]; exact (List.getElem?_eq_some_iff.mp e).1
  refine ⟨⟨Same.upd_out R.rh.fro (R.rh.nf n p e), by simp only [List.length_set]; exact R.rh.len, fun m d' a h1 h2 => ?_, R.rh.inj, R.rh.nf, R.rh.tb.mono (fun _ _ e => e) (fun q hq => upd_ne fun c => R.rh.tr q hq n (by rw [c]; exact e)) R.rh.tb.nf, R.rh.tr⟩, R.len, fun j x q => (R.sl j x q).mono (fun _ _ e => e) (List.prefix_refl _) (fun a h => upd_ne (no j a h)) rfl, R.oj, R.orr, R.off,
    fun j a q => by rw [upd_ne (no j a q)]; exact R.oth j a q, fun a u q m => ?_, R.exf, R.exr, R.nF, R.nr, R.no, R.ow, R.to, R.mt⟩
  · by_cases c : m = n
    · subst c
      rw [List.getElem?_set_self hn] at h1
      cases h1
      rw [e] at h2
      cases h2
      exact r
    · rw [List.getElem?_set_ne (Ne.symm c)] at h1
      have ca : a ≠ p := fun q => c (R.rh.inj m n p (by rw [← q]; exact h2) e)
      exact (R.rh.obs m d' a h1 h2).mono (fun _ _ e => e) (List.prefix_refl _) (upd_ne ca)
  · have c : a ≠ p := fun c => by
      subst c
      rcases R.nr n a e with h | h
      · exact m h
      · rw [h] at q
        cases q
    rw [upd_ne c]
    exact R.frm a u q m
/-- an object of nobody's joins the shared heap -/
theorem Rl.share (R : Rl K B F rho om z σ H) (h : Fresh K B F rho om H p) (r : Ob K F rho H p d) : Rl K B F (rho ++ [p]) om ⟨z.s, z.h ++ [d]⟩ σ H ∧ (rho ++ [p])[z.h.length]? = some p := by
  have px : rho <+: rho ++ [p] := List.prefix_append _ _
  have last : (rho ++ [p])[z.h.length]? = some p := by rw [R.rh.len, List.getElem?_append_right (Nat.le_refl _), Nat.sub_self]; rfl
  have cs : ∀ {n : Nat} {a : Addr}, (rho ++ [p])[n]? = some a → rho[n]? = some a ∨ (n = rho.length ∧ a = p) := fun {n a} e => by
    rcases Nat.lt_trichotomy n rho.length with c | c | c
    · rw [List.getElem?_append_left c] at e
      exact .inl e
    · subst c
      rw [List.getElem?_append_right (Nat.le_refl _), Nat.sub_self] at e
      exact .inr ⟨rfl, (Option.some.inj e).symm⟩
    · rw [List.getElem?_append_right (Nat.le_of_lt c)] at e
      have : 1 ≤ n - rho.length := by omega
      rw [List.getElem?_eq_none (by simpa using this)] at e
      cases e
  refine ⟨⟨⟨R.rh.fro, by simp only [List.length_append, List.length_singleton]; rw [R.rh.len], fun n d' a h1 h2 => ?_, fun i j a h1 h2 => ?_, fun n a h1 => ?_, R.rh.tb, fun q hq n e => ?_⟩, R.len, fun j x q => (R.sl j x q).mono (fun _ _ e => e) px (fun _ _ => rfl) rfl, R.oj, fun i n a q e => ?_, R.off, R.oth, R.frm, R.exf, R.exr.trans px, R.nF, fun n a q => ?_, R.no, R.ow, R.to, R.mt⟩, last⟩
  · rcases cs h2 with q | ⟨q, rfl⟩
    · have hl : n < z.h.length := by rw [R.rh.len]; exact (List.getElem?_eq_some_iff.mp q).1
      rw [List.getElem?_append_left hl] at h1
      exact (R.rh.obs n d' a h1 q).mono (fun _ _ e => e) px rfl
    · subst q
      rw [← R.rh.len, List.getElem?_append_right (Nat.le_refl _), Nat.sub_self] at h1
      cases (show some d = some d' from h1)
      exact r.mono (fun _ _ e => e) px rfl
  · rcases cs h1 with q | ⟨q, rfl⟩
    · rcases cs h2 with q2 | ⟨q2, rfl⟩
      · exact R.rh.inj i j a q q2
      · exact absurd q (h.r i)
    · rcases cs h2 with q2 | ⟨q2, _⟩
      · exact absurd q2 (h.r j)
      · omega
  · rcases cs h1 with q | ⟨_, rfl⟩
    · exact R.rh.nf n a q
    · exact h.f
  · rcases cs e with q2 | ⟨_, q2⟩
    · exact R.rh.tr q hq n q2
    · exact h.k q hq q2
  · rcases cs e with q2 | ⟨_, rfl⟩
    · exact R.orr i n a q q2
    · exact h.o i q
  · rcases cs q with q2 | ⟨_, rfl⟩
    · exact R.nr n a q2
    · exact h.b
/-- the heap as it stands, as a base -/
def reb (K : Kx) (F : Hp) (rho : List Addr) (om : Nat → Option Addr) (H : Hp) : Bs := ⟨H, F, rho, fun a => ((∃ i : Nat, om i = some a) ∨ ∃ n : Nat, rho[n]? = some a) ∨ ∃ p ∈ K.tb.t, p.1 = a⟩
theorem Rl.reb (R : Rl K B F rho om z σ H) : Rl K (reb K F rho om H) F rho om z σ H :=
  ⟨R.rh, R.len, R.sl, R.oj, R.orr, R.off, R.oth, fun _ _ e _ => e, fun _ _ e => e, List.prefix_refl _, fun _ _ _ _ e _ => e, fun n a e => .inl (.inl (.inr ⟨n, e⟩)), fun i a e => .inl (.inl (.inl ⟨i, e⟩)), R.ow, R.to, fun p hp => .inr ⟨p, hp, rfl⟩⟩
/-- back to the base before -/
theorem Rl.back (R : Rl K B F rho om z σ H) (S : Rl K (Mi.reb K F rho om H) F' rho' om' z' σ' H') : Rl K B F' rho' om' z' σ' H' := by
  have notmu : ∀ a u, B.H0 a = some u → ¬ B.mu a → ¬ (((∃ i : Nat, om i = some a) ∨ ∃ n : Nat, rho[n]? = some a) ∨ ∃ p ∈ K.tb.t, p.1 = a) := fun a u e m q => by
    rcases q with (⟨i, q⟩ | ⟨n, q⟩) | ⟨p, hp, rfl⟩
    · rcases R.no i a q with h | h
      · exact m h
      · rw [h] at e
        cases e
    · rcases R.nr n a q with h | h
      · exact m h
      · rw [h] at e
        cases e
    · exact m (R.mt p hp)
  have old : ∀ a, (Mi.reb K F rho om H).mu a ∨ (Mi.reb K F rho om H).H0 a = none → B.mu a ∨ B.H0 a = none := fun a q => by
    rcases q with ((⟨i, q⟩ | ⟨n, q⟩) | ⟨p, hp, rfl⟩) | q
    · exact R.no i a q
    · exact R.nr n a q
    · exact .inl (R.mt p hp)
    · exact (R.fresh0 q).symm
  refine ⟨S.rh, S.len, S.sl, S.oj, S.orr, S.off, S.oth, fun a u e m => S.frm a u (R.frm a u e m) (notmu a u e m), R.exf.trans S.exf, R.exr.trans S.exr, fun a u e1 nt e2 m => S.nF a u (R.frm a u e1 m) nt (R.nF a u e1 nt e2 m) (notmu a u e1 m), fun n a q => old a (S.nr n a q), fun i a q => old a (S.no i a q), S.ow, S.to, R.mt⟩
/-- through a part of an evaluation an object of nobody's stays as it was -/
theorem Fresh.through (f : Fresh K B F rho om H p) (S : Rl K (Mi.reb K F rho om H) F' rho' om' z' σ' H') (hb : ∀ i, om' i = some p → om i = some p) : Fresh K B F' rho' om' H' p ∧ H' p = H p := by
  obtain ⟨u, hu, nt⟩ := f.t
  have nm : ¬ (Mi.reb K F rho om H).mu p := fun q => by
    rcases q with (⟨i, q⟩ | ⟨n, q⟩) | ⟨q, hq, c⟩
    · exact f.o i q
    · exact f.r n q
    · exact f.k q hq c
  have e := S.frm p u hu nm
  refine ⟨⟨S.nF p u hu nt f.f nm, fun n q => ?_, fun i q => f.o i (hb i q), f.b, ⟨u, e, nt⟩, f.k⟩, e.trans hu.symm⟩
  rcases S.nr n p q with q | q
  · exact nm q
  · have q : H p = none := q
    rw [hu] at q
    cases q
end

/-! ### calls -/
/-- what a def does: the arguments and the shared heap go to a value and a heap, or it is not told -/
abbrev Fn := List D → List D → Option (D × List D)
def spM (n : Nat) (K : Kx) (mf : Fn) : Sp := fun vs H Q _ => vs.length = n ∧ ∃ (F : Hp) (rho : List Addr) (h : List D) (ds : List D), Rh K F rho h H ∧ Rps K F rho ds vs ∧ ∃ (d : D) (h' : List D), mf ds h = some (d, h') ∧
  ∀ (F' : Hp) (rho' : List Addr) (H' : Hp) (v : V), Same F F' → rho <+: rho' → Rh K F' rho' h' H' → (∀ a o, H a = some o → (∀ n : Nat, ¬ rho[n]? = some a) → (∀ p ∈ K.tb.t, ¬ p.1 = a) → H' a = some o) →
    (∀ a o, H a = some o → NT o → F a = none → (∀ n : Nat, ¬ rho[n]? = some a) → F' a = none) → (∀ (n : Nat) a, rho'[n]? = some a → (∃ m : Nat, rho[m]? = some a) ∨ H a = none) → Rp K F' rho' d v → Q v H'
section
variable {K : Kx} {B : Bs} {F F' : Hp} {rho rho' : List Addr} {om om' : Nat → Option Addr} {z z' : Z} {σ σ' : L2.St} {H H' : Hp} {a p : Addr} {d : D} {v : V} {o : HO}
/-- behind a call -/
theorem Rl.called {h' : List D} (R : Rl K B F rho om z σ H) (e1 : Same F F') (e2 : rho <+: rho') (r : Rh K F' rho' h' H') (fr : ∀ a o, H a = some o → (∀ n : Nat, ¬ rho[n]? = some a) → (∀ p ∈ K.tb.t, ¬ p.1 = a) → H' a = some o)
    (nf : ∀ a o, H a = some o → NT o → F a = none → (∀ n : Nat, ¬ rho[n]? = some a) → F' a = none) (nr : ∀ (n : Nat) a, rho'[n]? = some a → (∃ m : Nat, rho[m]? = some a) ∨ H a = none) : Rl K B F' rho' om ⟨z.s, h'⟩ σ H' := by
  have keep : ∀ (i : Nat) a, om i = some a → H' a = H a := fun i a e => by
    obtain ⟨u, hu, _⟩ := R.oth i a e
    rw [fr a u hu (fun n => R.orr i n a e) (fun p hp c => R.to p hp i (by rw [c]; exact e)), hu]
  have nrho : ∀ a u, B.H0 a = some u → ¬ B.mu a → ∀ n : Nat, ¬ rho[n]? = some a := fun a u e m n q => by
    rcases R.nr n a q with h | h
    · exact m h
    · rw [h] at e
      cases e
  refine ⟨r, R.len, fun i x q => (R.sl i x q).mono e1 e2 (keep i) rfl, R.oj, fun i n a q q2 => ?_, fun i a q => ?_, fun i a q => by rw [keep i a q]; exact R.oth i a q, fun a u q m => fr a u (R.frm a u q m) (nrho a u q m) (fun p hp c => m (by rw [← c]; exact R.mt p hp)), R.exf.trans e1, R.exr.trans e2,
    fun a u q1 nt q2 m => nf a u (R.frm a u q1 m) nt (R.nF a u q1 nt q2 m) (nrho a u q1 m), fun n a q => ?_, R.no, R.ow, R.to, R.mt⟩
  · rcases nr n a q2 with ⟨m, h⟩ | h
    · exact R.orr i m a q h
    · obtain ⟨u, hu, _⟩ := R.oth i a q
      rw [h] at hu
      cases hu
  · obtain ⟨u, hu, nt⟩ := R.oth i a q
    exact nf a u hu nt (R.off i a q) fun n => R.orr i n a q
  · rcases nr n a q with ⟨m, h⟩ | h
    · exact R.nr m a h
    · exact (R.fresh0 h).symm
/-- a frame's start -/
def slots (n : Nat) (ds : List D) : List Sl := ds.map Sl.val ++ List.replicate (n - ds.length) Sl.no
theorem slots_get {n : Nat} {ds : List D} {i : Nat} {x : Sl} (h : (slots n ds)[i]? = some x) : x = .no ∨ ∃ d, ds[i]? = some d ∧ x = .val d := by
  unfold slots at h
  rcases Nat.lt_or_ge i (ds.map Sl.val).length with c | c
  · rw [List.getElem?_append_left c, List.getElem?_map] at h
    cases q : ds[i]? with
    | none =>
      rw [q] at h
      cases h
    | some d =>
      rw [q] at h
      exact .inr ⟨d, rfl, (Option.some.inj h).symm⟩
  · rw [List.getElem?_append_right c, List.getElem?_replicate] at h
    split at h
    · exact .inl (Option.some.inj h).symm
    · cases h
theorem start_get {N : List Str} {vs : List V} {i : Nat} {v : V} (h : vs[i]? = some v) : (L2.start N vs)[i]? = some (some v) := by
  unfold L2.start
  have hl := (List.getElem?_eq_some_iff.mp h).1
  rw [List.getElem?_append_left (by simpa using hl), List.getElem?_map, h]
  rfl
theorem Rl.begin {h : List D} {ds : List D} {vs : List V} {N : List Str} (r : Rh K F rho h H) (q : Rps K F rho ds vs) (hl : vs.length ≤ N.length) :
    Rl K ⟨H, F, rho, fun a => (∃ n : Nat, rho[n]? = some a) ∨ ∃ p ∈ K.tb.t, p.1 = a⟩ F rho (fun _ => none) ⟨slots N.length ds, h⟩ (L2.start N vs) H := by
  refine ⟨r, ?_, fun i x e => ?_, (fun _ _ _ e => nomatch e), (fun _ _ _ e => nomatch e), (fun _ _ e => nomatch e), (fun _ _ e => nomatch e), fun _ _ e _ => e, fun _ _ e => e, List.prefix_refl _, fun _ _ _ _ e _ => e, fun n a e => .inl (.inl ⟨n, e⟩), (fun _ _ e => nomatch e), (fun _ _ e => nomatch e), (fun _ _ _ e => nomatch e), fun p hp => .inr ⟨p, hp, rfl⟩⟩
  · unfold slots L2.start
    rw [List.length_append, List.length_append, List.length_map, List.length_map, List.length_replicate, List.length_replicate, q.length]
  · rcases slots_get e with rfl | ⟨d, h1, rfl⟩
    · trivial
    · obtain ⟨v, h2, r2⟩ := q.get h1
      exact ⟨v, start_get h2, r2⟩
end
end Mi

set_option Elab.async false
set_option linter.all false
set_option maxRecDepth 100000
/-! Mi, part C: the meanings of expressions, tests, statements. -/
namespace Mi
open PySem PySem.Spec PyProof.Rows L2

abbrev M (α : Type) := Z → Option (α × Z)
def bnd {α β : Type} (a : M α) (f : α → M β) : M β := fun z => match a z with
  | none => none
  | some (x, z1) => f x z1
def ret {α : Type} (x : α) : M α := fun z => some (x, z)
def isPure : D → Bool
  | .own _ => false
  | _ => true
/-- the items of a list or a tuple (true: a tuple) -/
def cont (d : D) (z : Z) : Option (Bool × List D) := match d with
  | .lst xs => some (false, xs)
  | .tup xs => some (true, xs)
  | .kt xs => some (true, xs)
  | .scr xs => some (false, xs)
  | .ref n => match z.h[n]? with
    | some (.lst xs) => some (false, xs)
    | _ => none
  | .own i => match z.s[i]? with
    | some (.own (.lst xs)) => some (false, xs)
    | _ => none
  | _ => none
/-- lists stay below this length -/
def szl : Nat := 1000000

/-! ### expressions -/
namespace E
def var (i : Nat) : M D := fun z => match z.s[i]? with
  | some (.val d) => some (d, z)
  | some (.own _) => some (.own i, z)
  | _ => none
def c (d : D) : M D := ret d
/-- a two-place operation that changes nothing -/
def op (f : D → D → Z → Option D) (a b : M D) : M D := bnd a fun x => bnd b fun y => fun z => match f x y z with
  | none => none
  | some d => some (d, z)
def un (f : D → Z → Option D) (a : M D) : M D := bnd a fun x => fun z => match f x z with
  | none => none
  | some d => some (d, z)
def args : List (M D) → M (List D)
  | [] => ret []
  | a :: as => bnd a fun x => bnd (args as) fun xs => if isPure x = true then ret (x :: xs) else fun _ => none
def tup (as : List (M D)) : M D := bnd (args as) fun xs => ret (.tup xs)
/-- a new list that nobody changes -/
def frz (m : M (List D)) : M D := bnd m fun xs => ret (.lst xs)
/-- a new list of the shared heap -/
def shr (m : M (List D)) : M D := bnd m fun xs z => some (.ref z.h.length, ⟨z.s, z.h ++ [.lst xs]⟩)
def call (mf : Fn) (as : List (M D)) : M D := bnd (args as) fun xs z => match mf xs z.h with
  | none => none
  | some (d, h') => some (d, ⟨z.s, h'⟩)
/-- a built-in's call by values -/
def blt (f : List D → Z → Option D) (as : List (M D)) : M D := fun z => match as with
  | [] => none
  | [a] => bnd a (fun x => fun z => match f [x] z with
    | none => none
    | some d => some (d, z)) z
  | _ => bnd (args as) (fun xs z => match f xs z with
    | none => none
    | some d => some (d, z)) z
def ite (t : M Bool) (a b : M D) : M D := bnd t fun k => if k = true then a else b
def and (a b : M D) : M D := bnd a fun x => match x with
  | .bl true => b
  | .bl false => ret (.bl false)
  | _ => fun _ => none
def or (a b : M D) : M D := bnd a fun x => match x with
  | .bl false => b
  | .bl true => ret (.bl true)
  | _ => fun _ => none
def not (a : M D) : M D := bnd a fun x => match x with
  | .bl k => ret (.bl (!k))
  | _ => fun _ => none
/-- a < b < c by two operations -/
def chain (f g : D → D → Z → Option D) (a b c : M D) : M D := bnd a fun x => bnd b fun y => fun z => match f x y z with
  | some (.bl true) => bnd c (fun w z => match g y w z with
    | some (.bl k) => some (.bl k, z)
    | _ => none) z
  | some (.bl false) => some (.bl false, z)
  | _ => none
def isN (a : M D) : M D := bnd a fun x => match x with
  | .non => ret (.bl true)
  | _ => ret (.bl false)
def notN (a : M D) : M D := bnd a fun x => match x with
  | .non => ret (.bl false)
  | _ => ret (.bl true)
/-- xs.m(..) of a list that is changed: f takes the items and the arguments to a value and the items -/
def chgF (f : List D → List D → Option (D × List D)) (x : D) (xs : List D) : M D := fun z => match x with
  | .own i => match z.s[i]? with
    | some (.own (.lst ds)) => match f ds xs with
      | none => none
      | some (d, ds') => some (d, ⟨z.s.set i (.own (.lst ds')), z.h⟩)
    | _ => none
  | .ref n => match z.h[n]? with
    | some (.lst ds) => match f ds xs with
      | none => none
      | some (d, ds') => some (d, ⟨z.s, z.h.set n (.lst ds')⟩)
    | _ => none
  | _ => none
def isLst (x : D) (z : Z) : Bool := match x with
  | .own _ => (cont x z).isSome
  | .ref _ => (cont x z).isSome
  | _ => false
def chg (f : List D → List D → Option (D × List D)) (a : M D) (as : List (M D)) : M D := bnd a fun x => fun z => if isLst x z = true then bnd (args as) (fun xs => chgF f x xs) z else none
end E

/-! ### operations -/
def bigN : Nat := 4096
/-- an int of a size that products take -/
def smI (i : Int) : Prop := i.natAbs < 2 ^ bigN
namespace O
def add : D → D → Z → Option D
  | .int i, .int j, _ => some (.int (i + j))
  | _, _, _ => none
def sub : D → D → Z → Option D
  | .int i, .int j, _ => some (.int (i - j))
  | _, _, _ => none
open Classical in
noncomputable def mul : D → D → Z → Option D
  | .int i, .int j, _ => if smI i ∧ smI j then some (.int (i * j)) else none
  | _, _, _ => none
open Classical in
noncomputable def div : D → D → Z → Option D
  | .int i, .int j, _ => if 0 < j ∧ smI j then some (.int (i / j)) else none
  | _, _, _ => none
def mod : D → D → Z → Option D
  | .int i, .int j, _ => if 0 < j then some (.int (i % j)) else none
  | _, _, _ => none
def lt : D → D → Z → Option D
  | .int i, .int j, _ => some (.bl (decide (i < j)))
  | _, _, _ => none
def le : D → D → Z → Option D
  | .int i, .int j, _ => some (.bl (decide (i ≤ j)))
  | _, _, _ => none
def gt : D → D → Z → Option D
  | .int i, .int j, _ => some (.bl (decide (j < i)))
  | _, _, _ => none
def ge : D → D → Z → Option D
  | .int i, .int j, _ => some (.bl (decide (j ≤ i)))
  | _, _, _ => none
def neg : D → Z → Option D
  | .int i, _ => some (.int (-i))
  | _, _ => none
def ix (x y : D) (z : Z) : Option D := match cont x z, y with
  | some (_, ds), .int i => atI ds i
  | _, _ => none
mutual
def toP : D → Option PyData
  | .non => some .none
  | .bl b => some (.bool b)
  | .int i => some (.int i)
  | .str x => some (.str x)
  | .tup xs => (toPs xs).map .tuple
  | .kt xs => (toPs xs).map .tuple
  | .lst xs => (toPs xs).map .list
  | .scr xs => (toPs xs).map .list
  | _ => none
def toPs : List D → Option (List PyData)
  | [] => some []
  | x :: xs => match toP x, toPs xs with
    | some a, some as => some (a :: as)
    | _, _ => none
end
/-- a list that may change, as it stands -/
def snap (x : D) (z : Z) : D := match x with
  | .own _ => match cont x z with
    | some (_, ds) => .lst ds
    | none => .own 0
  | .ref _ => match cont x z with
    | some (_, ds) => .lst ds
    | none => .own 0
  | _ => x
def eqD (x y : D) (z : Z) : Option Bool := match toP (snap x z), toP (snap y z) with
  | some a, some b => if SeqAt.shaped a = true ∧ SeqAt.shaped b = true then some (PyData.eqv a b) else none
  | _, _ => none
def eqP (x y : D) (z : Z) : Option Bool := match x, y with
  | .str a, .str b => some (decide (a = b))
  | x, y => eqD x y z
def eq (x y : D) (z : Z) : Option D := (eqP x y z).map .bl
def ne (x y : D) (z : Z) : Option D := (eqP x y z).map fun k => .bl (!k)
def flat : D → Bool
  | .non => true
  | .bl _ => true
  | .int _ => true
  | .str _ => true
  | _ => false
def eqF : D → D → Bool
  | .non, .non => true
  | .bl a, .bl b => a == b
  | .bl a, .int b => (if a then 1 else 0) == b
  | .int a, .bl b => a == (if b then 1 else 0)
  | .int a, .int b => a == b
  | .str a, .str b => a == b
  | _, _ => false
def isIn (x y : D) (z : Z) : Option D := match cont y z with
  | some (_, ds) => if flat x = true ∧ ds.all flat = true then some (.bl (ds.any fun y => eqF y x)) else none
  | none => none
def notIn (x y : D) (z : Z) : Option D := match cont y z with
  | some (_, ds) => if flat x = true ∧ ds.all flat = true then some (.bl (!ds.any fun y => eqF y x)) else none
  | none => none
/-- truth -/
def tru (x : D) (z : Z) : Option Bool := match x with
  | .non => some false
  | .bl b => some b
  | .int i => some (i != 0)
  | _ => match cont x z with
    | some (_, ds) => some (!ds.isEmpty)
    | none => none
end O

/-! ### built-ins by values -/
namespace F
def len : List D → Z → Option D
  | [x], z => match cont x z with
    | some (_, ds) => some (.int ds.length)
    | none => none
  | _, _ => none
def abs : List D → Z → Option D
  | [.int i], _ => some (.int (if i < 0 then -i else i))
  | _, _ => none
def max2 : List D → Z → Option D
  | [.int i, .int j], _ => some (.int (if j > i then j else i))
  | _, _ => none
def min2 : List D → Z → Option D
  | [.int i, .int j], _ => some (.int (if j < i then j else i))
  | _, _ => none
def int1 : List D → Z → Option D
  | [.int i], _ => some (.int i)
  | _, _ => none
def tuple : List D → Z → Option D
  | [.kt _], _ => none
  | [x], z => match cont x z with
    | some (_, ds) => some (.tup ds)
    | none => none
  | _, _ => none
def ofInts : List D → Option (List Int)
  | [] => some []
  | .int i :: r => (ofInts r).map (i :: ·)
  | _ :: _ => none
def ofBools : List D → Option (List Bool)
  | [] => some []
  | .bl i :: r => (ofBools r).map (i :: ·)
  | _ :: _ => none
/-- of a list (no tuple) -/
def lstI (x : D) (z : Z) : Option (List Int) := match cont x z with
  | some (false, ds) => ofInts ds
  | _ => none
def lstB (x : D) (z : Z) : Option (List Bool) := match cont x z with
  | some (false, ds) => ofBools ds
  | _ => none
def sum : List D → Z → Option D
  | [x], z => (lstI x z).map fun ns => .int ns.sum
  | _, _ => none
def maxL : List Int → Option Int
  | [] => none
  | x :: xs => some (xs.foldl (fun a b => if a < b then b else a) x)
def minL : List Int → Option Int
  | [] => none
  | x :: xs => some (xs.foldl (fun a b => if b < a then b else a) x)
def max1 : List D → Z → Option D
  | [x], z => match lstI x z with
    | some ns => (maxL ns).map .int
    | none => none
  | _, _ => none
def min1 : List D → Z → Option D
  | [x], z => match lstI x z with
    | some ns => (minL ns).map .int
    | none => none
  | _, _ => none
def all1 : List D → Z → Option D
  | [x], z => (lstB x z).map fun bs => .bl (bs.all id)
  | _, _ => none
def any1 : List D → Z → Option D
  | [x], z => (lstB x z).map fun bs => .bl (bs.any id)
  | _, _ => none
/-- isinstance(x, T) of a built-in class T: the class's name given -/
def tyName : D → Z → Option String
  | .non, _ => some "NoneType"
  | .bl _, _ => some "bool"
  | .int _, _ => some "int"
  | .str _, _ => some "str"
  | .tup _, _ => some "tuple"
  | .kt _, _ => some "tuple"
  | .lst _, _ => some "list"
  | .ref n, z => match z.h[n]? with
    | some (.lst _) => some "list"
    | _ => none
  | .own i, z => match z.s[i]? with
    | some (.own (.lst _)) => some "list"
    | _ => none
  | _, _ => none
end F

/-! ### changes of a list -/
namespace U
def append (ds xs : List D) : Option (D × List D) := match xs with
  | [x] => if ds.length < szl then some (.non, ds ++ [x]) else none
  | _ => none
def pop (ds xs : List D) : Option (D × List D) := match xs with
  | [] => match ds[ds.length - 1]? with
    | some d => some (d, ds.dropLast)
    | none => none
  | _ => none
def popAt (ds xs : List D) : Option (D × List D) := match xs with
  | [.int i] => if -(2 ^ 63) ≤ i ∧ i < 2 ^ 63 then match ixN ds.length i with
    | some k => match ds[k]? with
      | some d => some (d, ds.eraseIdx k)
      | none => none
    | none => none else none
  | _ => none
/-- extend by a list that stands still -/
def extend (ds xs : List D) : Option (D × List D) := match xs with
  | [.lst ys] => if ds.length + ys.length < szl then some (.non, ds ++ ys) else none
  | _ => none
def setAt (ds : List D) (i : Int) (x : D) : Option (List D) := (ixN ds.length i).map fun k => ds.set k x
end U

/-! ### new lists -/
namespace N
def disp (as : List (M D)) : M (List D) := E.args as
def ofSeq (a : M D) : M (List D) := bnd a fun x z => match cont x z with
  | some (_, ds) => some (ds, z)
  | none => none
def cutI (n d : Nat) (o : Option Int) : Nat := HT.sIx n d o
def cutL {α : Type} (ds : List α) (lo hi : Option Int) : List α := (ds.drop (HT.sIx ds.length 0 lo)).take (HT.sIx ds.length ds.length hi - HT.sIx ds.length 0 lo)
def part (a : Option (M D)) : M (Option Int) := match a with
  | none => ret none
  | some m => bnd m fun x => match x with
    | .int i => ret (some i)
    | _ => fun _ => none
/-- xs[lo:hi] of a list -/
def slice (a : M D) (lo hi : Option (M D)) : M (List D) := bnd a fun x => bnd (part lo) fun l => bnd (part hi) fun u z => match cont x z with
  | some (false, ds) => some (cutL ds l u, z)
  | _ => none
/-- xs + ys of lists -/
def cat (a b : M D) : M (List D) := bnd a fun x => bnd b fun y z => match x, y with
  | .scr _, _ => none
  | _, .scr _ => none
  | _, _ => match cont x z, cont y z with
    | some (false, ds), some (false, es) => if ds.length + es.length < szl then some (ds ++ es, z) else none
    | _, _ => none
end N

/-! ### tests -/
namespace T
def val (a : M D) : M Bool := bnd a fun x => match x with
  | .bl k => ret k
  | _ => fun _ => none
def tru (a : M D) : M Bool := bnd a fun x z => match O.tru x z with
  | some k => some (k, z)
  | none => none
def and (a b : M Bool) : M Bool := bnd a fun k => if k = true then b else ret false
def or (a b : M Bool) : M Bool := bnd a fun k => if k = true then ret true else b
def not (a : M Bool) : M Bool := bnd a fun k => ret (!k)
end T

/-! ### targets -/
/-- a target: which slots it sets, and how -/
structure G where
  ws : List Nat
  run : D → Z → Option Z
namespace G
def nm (i : Nat) : G := ⟨[i], fun d z => some ⟨z.s.set i (.val d), z.h⟩⟩
def runs : List G → List D → Z → Option Z
  | [], [], z => some z
  | g :: gs, d :: ds, z => match g.run d z with
    | none => none
    | some z1 => runs gs ds z1
  | _, _, _ => none
def tp (gs : List G) : G := ⟨gs.flatMap G.ws, fun d z => match d with
  | .tup ds => runs gs ds z
  | .kt ds => runs gs ds z
  | _ => none⟩
/-- .. of a list -/
def tl (gs : List G) : G := ⟨gs.flatMap G.ws, fun d z => match d with
  | .lst ds => runs gs ds z
  | _ => none⟩
end G

/-! ### what is walked -/
structure It where
  items : List D
  chk : Option D
open Classical in
noncomputable def It.ok (it : It) (z : Z) : Bool := match it.chk with
  | none => true
  | some d => if ∃ b, cont d z = some (b, it.items) then true else false
namespace I
def seq (a : M D) : M It := bnd a fun x z => match x with
  | .lst xs => some (⟨xs, none⟩, z)
  | .tup xs => some (⟨xs, none⟩, z)
  | .kt xs => some (⟨xs, none⟩, z)
  | .scr xs => some (⟨xs, none⟩, z)
  | .ref _ => match cont x z with
    | some (_, xs) => some (⟨xs, some x⟩, z)
    | none => none
  | _ => none
/-- in a comprehension a slot's own list, too -/
def seqF (x : D) (z : Z) : Option (It × Z) := match x with
  | .lst xs => some (⟨xs, none⟩, z)
  | .tup xs => some (⟨xs, none⟩, z)
  | .kt xs => some (⟨xs, none⟩, z)
  | .scr xs => some (⟨xs, none⟩, z)
  | .ref _ => match cont x z with
    | some (_, xs) => some (⟨xs, some x⟩, z)
    | none => none
  | .own _ => match cont x z with
    | some (_, xs) => some (⟨xs, some x⟩, z)
    | none => none
  | _ => none
def seqC (a : M D) : M It := bnd a seqF
def irng (lo : Int) (n : Nat) : List D := (List.range n).map fun i => D.int (lo + (i : Nat))
def rng1 (a : M D) : M It := bnd a fun x => match x with
  | .int n => if -(2 ^ 62) ≤ n ∧ n < 2 ^ 62 then ret ⟨irng 0 n.toNat, none⟩ else fun _ => none
  | _ => fun _ => none
def rng2 (a b : M D) : M It := bnd a fun x => bnd b fun y => match x, y with
  | .int i, .int j => if (-(2 ^ 62) ≤ i ∧ i < 2 ^ 62) ∧ -(2 ^ 62) ≤ j ∧ j < 2 ^ 62 then ret ⟨irng i (j - i).toNat, none⟩ else fun _ => none
  | _, _ => fun _ => none
end I

/-! ### comprehensions -/
namespace N
def wipe (s : List Sl) : List Nat → List Sl
  | [] => s
  | v :: vs => (wipe s vs).set v .no
def rest (s0 s : List Sl) : List Nat → List Sl
  | [] => s
  | v :: vs => match s0[v]? with
    | some x => (rest s0 s vs).set v x
    | none => rest s0 s vs
def isOwn : Option Sl → Bool
  | some (.own _) => true
  | _ => false
noncomputable def loop (it : It) (g : G) (vs : List Nat) (tt : M Bool) (te : M D) : List D → List D → Z → Option (List D × Z)
  | [], acc, z => if it.ok z = true then some (acc, z) else none
  | d :: ds, acc, z => if it.ok z = true then match g.run d z with
    | none => none
    | some z1 => match tt z1 with
      | none => none
      | some (false, z2) => loop it g vs tt te ds acc ⟨wipe z2.s vs, z2.h⟩
      | some (true, z2) => match te z2 with
        | none => none
        | some (x, z3) => if isPure x = true then loop it g vs tt te ds (acc ++ [x]) ⟨wipe z3.s vs, z3.h⟩ else none
    else none
noncomputable def comp (mi : M It) (g : G) (vs : List Nat) (tt : M Bool) (te : M D) : M (List D) := bnd mi fun it z =>
  if it.items.length ≤ szl ∧ (vs.all fun v => !isOwn z.s[v]?) = true then match loop it g vs tt te it.items [] ⟨wipe z.s vs, z.h⟩ with
    | none => none
    | some (acc, z1) => some (acc, ⟨rest z.s z1.s vs, z1.h⟩)
  else none
end N

/-! ### statements -/
inductive Fl where
  | nx | bk | ct | rt (d : D)
abbrev C := Z → Option (Fl × Z)
namespace C
def skip : C := fun z => some (.nx, z)
def seq (a b : C) : C := fun z => match a z with
  | some (.nx, z1) => b z1
  | r => r
def set (i : Nat) (e : M D) : C := bnd e fun d z => if isPure d = true then some (.nx, ⟨z.s.set i (.val d), z.h⟩) else none
/-- target = e -/
def asg (g : G) (e : M D) : C := bnd e fun d z => if isPure d = true then match g.run d z with
    | some z1 => some (.nx, z1)
    | none => none
  else none
/-- the slot owns the new list -/
def own (i : Nat) (e : M (List D)) : C := bnd e fun ds z => if i < z.s.length then some (.nx, ⟨z.s.set i (.own (.lst ds)), z.h⟩) else none
/-- the slot's list is not changed any more -/
def frz (i : Nat) : C := fun z => match z.s[i]? with
  | some (.own (.lst ds)) => some (.nx, ⟨z.s.set i (.val (.lst ds)), z.h⟩)
  | _ => none
def drop (e : M D) : C := bnd e fun _ z => some (.nx, z)
def ret (e : M D) : C := bnd e fun d z => match d with
  | .own i => match z.s[i]? with
    | some (.own (.lst ds)) => some (.rt (.lst ds), ⟨z.s.set i .no, z.h⟩)
    | _ => none
  | _ => some (.rt d, z)
/-- a slot's own list goes to the shared heap -/
def retS (e : M D) : C := bnd e fun d z => match d with
  | .own i => match z.s[i]? with
    | some (.own (.lst ds)) => some (.rt (.ref z.h.length), ⟨z.s.set i .no, z.h ++ [.lst ds]⟩)
    | _ => none
  | _ => none
def retN : C := fun z => some (.rt .non, z)
def ite (t : M Bool) (a b : C) : C := bnd t fun k => if k = true then a else b
def brk : C := fun z => some (.bk, z)
def cnt : C := fun z => some (.ct, z)
/-- a[i] = e, a list that may change -/
def setIx (a i e : M D) : C := bnd e fun d => bnd a fun x => bnd i fun y z => if isPure d = true then match x, y with
    | .own k, .int j => match z.s[k]? with
      | some (.own (.lst ds)) => match U.setAt ds j d with
        | some ds' => some (.nx, ⟨z.s.set k (.own (.lst ds')), z.h⟩)
        | none => none
      | _ => none
    | .ref n, .int j => match z.h[n]? with
      | some (.lst ds) => match U.setAt ds j d with
        | some ds' => some (.nx, ⟨z.s, z.h.set n (.lst ds')⟩)
        | none => none
      | _ => none
    | _, _ => none
  else none
/-- x op= e -/
def aug (i : Nat) (f : D → D → Z → Option D) (e : M D) : C := fun z => match z.s[i]? with
  | some (.val x) => bnd e (fun y z => match f x y z with
    | some d => if isPure d = true then some (.nx, ⟨z.s.set i (.val d), z.h⟩) else none
    | none => none) z
  | _ => none
noncomputable def loop (it : It) (g : G) (b : C) : List D → C
  | [] => fun z => if it.ok z = true then some (.nx, z) else none
  | d :: ds => fun z => if it.ok z = true then match g.run d z with
    | none => none
    | some z1 => match b z1 with
      | none => none
      | some (.nx, z2) => loop it g b ds z2
      | some (.ct, z2) => loop it g b ds z2
      | some (.bk, z2) => some (.nx, z2)
      | some (.rt d, z2) => some (.rt d, z2)
    else none
noncomputable def for_ (mi : M It) (g : G) (b : C) : C := bnd mi fun it => loop it g b it.items
def whl (t : M Bool) (b : C) : C := fun z => match t z with
  | none => none
  | some (false, z1) => some (.nx, z1)
  | some (true, z1) => match b z1 with
    | none => none
    | some (.nx, z2) => whl t b z2
    | some (.ct, z2) => whl t b z2
    | some (.bk, z2) => some (.nx, z2)
    | some (.rt d, z2) => some (.rt d, z2)
partial_fixpoint
end C
/-- a def by its body: n slots, k parameters -/
def fn (n k : Nat) (b : C) : Fn := fun ds h => if ds.length = k then match b ⟨slots n ds, h⟩ with
    | some (.rt d, z) => some (d, z.h)
    | some (.nx, z) => some (.non, z.h)
    | _ => none
  else none
end Mi

set_option Elab.async false
set_option linter.all false
set_option maxRecDepth 100000
/-! Mi, part D: the meanings are kept by the model: expressions and tests. -/
namespace Mi
open PySem PySem.Spec PyProof.Rows L2

abbrev RelT (α β : Type) := Bs → Hp → List Addr → (Nat → Option Addr) → Hp → α → β → Prop
/-- from the state z the meaning m goes on as Q wants -/
def Go (K : Kx) {α β : Type} (R : RelT α β) (B : Bs) (F : Hp) (rho : List Addr) (om : Nat → Option Addr) (m : M α) (z : Z) (σ : L2.St) (H : Hp) (Q : β → Hp → Prop) : Prop :=
  Rl K B F rho om z σ H ∧ ∃ x z', m z = some (x, z') ∧ ∀ F' rho' H' y, Same F F' → rho <+: rho' → Rl K B F' rho' om z' σ H' → R B F' rho' om H' x y → Q y H'
def Tx (K : Kx) {α β : Type} (R : RelT α β) (m : M α) : L2.St → Hp → (β → Hp → Prop) → Prop := fun σ H Q => ∃ B F rho om z, Go K R B F rho om m z σ H Q
abbrev rV (K : Kx) : RelT D V := fun _ F rho om _ d v => Rv K F rho om d v
abbrev rB : RelT Bool Bool := fun _ _ _ _ _ a b => b = a
abbrev rA (K : Kx) : RelT (List D) (List V) := fun _ F rho _ _ ds vs => Rps K F rho ds vs
abbrev rF (K : Kx) : RelT (List D) V := fun B F rho om H ds v => ∃ p xs, v = .ref p ∧ H p = some (.lst xs) ∧ Fresh K B F rho om H p ∧ Rps K F rho ds xs
abbrev rO : RelT (Option Int) (Option Int) := fun _ _ _ _ _ a b => b = a
abbrev Te (K : Kx) (m : M D) : TE := Tx K (rV K) m
abbrev Tt (K : Kx) (m : M Bool) : TT := Tx K rB m
abbrev Ta (K : Kx) (m : M (List D)) : TA := Tx K (rA K) m
abbrev Tf (K : Kx) (m : M (List D)) : TE := Tx K (rF K) m
abbrev To (K : Kx) (m : M (Option Int)) : TO := Tx K rO m

theorem bnd_some {α β : Type} {a : M α} {f : α → M β} {z z' : Z} {y : β} (h : bnd a f z = some (y, z')) : ∃ x z1, a z = some (x, z1) ∧ f x z1 = some (y, z') := by
  unfold bnd at h
  split at h
  · cases h
  · exact ⟨_, _, by assumption, h⟩

section
variable {K : Kx} {α β γ δ : Type} {R : RelT α β} {R' : RelT γ δ} {B : Bs} {F : Hp} {rho : List Addr} {om : Nat → Option Addr} {z : Z} {σ : L2.St} {H : Hp}
theorem Go.imp {m : M α} {Q Q' : β → Hp → Prop} (h : Go K R B F rho om m z σ H Q) (i : ∀ F' rho' H' x z' y, m z = some (x, z') → Same F F' → rho <+: rho' → Rl K B F' rho' om z' σ H' → R B F' rho' om H' x y → Q y H' → Q' y H') : Go K R B F rho om m z σ H Q' := by
  obtain ⟨r, x, z', e, k⟩ := h
  exact ⟨r, x, z', e, fun F' rho' H' y s p r' q => i F' rho' H' x z' y e s p r' q (k F' rho' H' y s p r' q)⟩
/-- one after another -/
theorem Go.bnd {a : M α} {f : α → M γ} {Q : δ → Hp → Prop} (h : Go K R' B F rho om (bnd a f) z σ H Q) :
    Go K R B F rho om a z σ H fun y H1 => ∃ F1 rho1 z1 x, a z = some (x, z1) ∧ Same F F1 ∧ rho <+: rho1 ∧ R B F1 rho1 om H1 x y ∧ Go K R' B F1 rho1 om (f x) z1 σ H1 Q := by
  obtain ⟨r, x, z', e, k⟩ := h
  obtain ⟨y, z1, e1, e2⟩ := bnd_some e
  exact ⟨r, y, z1, e1, fun F1 rho1 H1 v s1 p1 r1 q1 => ⟨F1, rho1, z1, y, e1, s1, p1, q1, r1, x, z', e2, fun F2 rho2 H2 w s2 p2 r2 q2 => k F2 rho2 H2 w (s1.trans s2) (p1.trans p2) r2 q2⟩⟩
theorem Go.ret {x : α} {Q : β → Hp → Prop} (h : Go K R B F rho om (ret x) z σ H Q) : ∀ y, R B F rho om H x y → Q y H := by
  obtain ⟨r, x', z', e, k⟩ := h
  unfold Mi.ret at e
  cases e
  exact fun y q => k F rho H y (Same.refl F) (List.prefix_refl _) r q
theorem Go.tx {m : M α} {Q : β → Hp → Prop} (h : Go K R B F rho om m z σ H Q) : Tx K R m σ H Q := ⟨B, F, rho, om, z, h⟩
/-- the end of an evaluation that changes nothing more -/
theorem Go.fin {m : M α} {Q : β → Hp → Prop} {x : α} (h : Go K R B F rho om m z σ H Q) (e : m z = some (x, z)) : ∀ y, R B F rho om H x y → Q y H := by
  obtain ⟨r, x', z', e', k⟩ := h
  rw [e] at e'
  cases e'
  exact fun y q => k F rho H y (Same.refl F) (List.prefix_refl _) r q
end

section
variable {K : Kx} {B : Bs} {F : Hp} {rho : List Addr} {om : Nat → Option Addr} {z : Z} {σ : L2.St} {H : Hp}
/-- a list or tuple, read -/
theorem cont_ok (R : Rl K B F rho om z σ H) {d : D} {v : V} {t : Bool} {ds : List D} (r : Rv K F rho om d v) (e : cont d z = some (t, ds)) :
    ∃ a xs, v = .ref a ∧ Rps K F rho ds xs ∧ ((t = false ∧ SqL K H a xs) ∨ (t = true ∧ SqT K H a xs)) := by
  cases r with
  | pure r =>
    cases r with
    | non => cases e
    | bl b => cases e
    | int i => cases e
    | str x => cases e
    | tup h q =>
      cases e
      exact ⟨_, _, rfl, q, .inr ⟨rfl, SqT.of (R.rh.fro _ _ h)⟩⟩
    | kt h q =>
      cases e
      exact ⟨_, _, rfl, q, .inr ⟨rfl, Same.sqt R.rh.fro h⟩⟩
    | lst h q =>
      cases e
      exact ⟨_, _, rfl, q, .inl ⟨rfl, SqL.of (R.rh.fro _ _ h)⟩⟩
    | scr h q =>
      cases e
      exact ⟨_, _, rfl, q, .inl ⟨rfl, R.rh.fro.seq h⟩⟩
    | @ref n a h =>
      have e : (match z.h[n]? with | some (.lst xs) => some (false, xs) | _ => none) = some (t, ds) := e
      split at e
      · rename_i xs hx
        cases e
        obtain ⟨ys, h1, h2⟩ := R.rh.obs n _ a hx h
        exact ⟨a, ys, rfl, h2, .inl ⟨rfl, SqL.of h1⟩⟩
      · cases e
    | dk => cases e
    | dt => cases e
    | ins => cases e
  | @own i a h =>
    have e : (match z.s[i]? with | some (.own (.lst xs)) => some (false, xs) | _ => none) = some (t, ds) := e
    split at e
    · rename_i xs hx
      cases e
      obtain ⟨a', h1, _, h2⟩ := R.sl i _ hx
      rw [h] at h1
      cases h1
      obtain ⟨ys, h3, h4⟩ := h2
      exact ⟨a, ys, rfl, h4, .inl ⟨rfl, SqL.of h3⟩⟩
    · cases e
theorem Rv.of_pure {d : D} {v : V} (r : Rv K F rho om d v) (h : isPure d = true) : Rp K F rho d v := by
  cases r with
  | pure r => exact r
  | own _ => cases h
theorem Rp.isPure {d : D} {v : V} (r : Rp K F rho d v) : isPure d = true := by cases r <;> rfl
end

/-! ### a reading in another one's place -/
section
variable {X : Cx} {Tb : Tbs}
theorem pe_imp {e : Expr} {t t' : TE} (h : PE X e t) (i : ∀ σ H Q, t' σ H Q → t σ H Q) : PE X e t' := ⟨fun pins s σ H Q I hw => h.run pins s σ H Q I (i σ H Q hw)⟩
theorem pt_imp {e : Expr} {t t' : TT} (h : PT X e t) (i : ∀ σ H Q, t' σ H Q → t σ H Q) : PT X e t' := ⟨fun pins s σ H Q I hw => h.run pins s σ H Q I (i σ H Q hw)⟩
theorem pw_imp {e : Expr} {t t' : TT} (h : PW X e t) (i : ∀ σ H Q, t' σ H Q → t σ H Q) : PW X e t' := ⟨fun wh pins s σ H Q I hw => h.run wh pins s σ H Q I (i σ H Q hw)⟩
theorem pa_imp {es : List Expr} {t t' : TA} (h : PA X es t) (i : ∀ σ H Q, t' σ H Q → t σ H Q) : PA X es t' := ⟨fun pos pins s σ H Q I hw => h.run pos pins s σ H Q I (i σ H Q hw)⟩
theorem ps_imp {st : Stmt} {t t' : TS} (h : PS X st t) (i : ∀ D σ H, t' D σ H → t D σ H) : PS X st t' := ⟨fun pins s σ H D I hw => h.run pins s σ H D I (i D σ H hw)⟩
theorem pss_imp {st : List Stmt} {t t' : TS} (h : PSs X st t) (i : ∀ D σ H, t' D σ H → t D σ H) : PSs X st t' := ⟨fun pins s σ H D I hw => h.run pins s σ H D I (i D σ H hw)⟩
theorem pg_imp {e : Expr} {t t' : TG} (h : PG X e t) (i : ∀ v σ H Q, t' v σ H Q → t v σ H Q) : PG X e t' := ⟨fun pins s σ H v u Q I r hw => h.run pins s σ H v u Q I r (i v σ H Q hw)⟩
theorem pgs_imp {es : List Expr} {t t' : TGs} (h : PGs X es t) (i : ∀ vs σ H Q, t' vs σ H Q → t vs σ H Q) : PGs X es t' := ⟨fun pins s σ H vs us Q I r hw => h.run pins s σ H vs us Q I r (i vs σ H Q hw)⟩
theorem pi_imp {tg e : Expr} {t t' : TI} (h : PI X tg e t) (i : ∀ σ H R, t' σ H R → t σ H R) : PI X tg e t' := ⟨fun pins s σ H R I hw => h.run pins s σ H R I (i σ H R hw)⟩
theorem pts_imp {es : List Expr} {t t' : TT} (h : PTs X es t) (i : ∀ σ H Q, t' σ H Q → t σ H Q) : PTs X es t' := ⟨fun pins s σ H Q I hw => h.run pins s σ H Q I (i σ H Q hw)⟩
theorem po_imp {e : Option Expr} {t t' : TO} (h : PO X e t) (i : ∀ σ H Q, t' σ H Q → t σ H Q) : PO X e t' := ⟨fun pins s σ H Q I hw => h.run pins s σ H Q I (i σ H Q hw)⟩

/-! ### names, constants -/
theorem me_var (i : Nat) {x : Str} {pos : Pos} (hN : X.N[i]? = some x := by rfl) (hv : Vis X.env.scope x := by first | exact Or.inl rfl | exact Or.inr (Or.inl rfl) | exact Or.inr (Or.inr rfl)) (hd : (x == ("__debug__" : Str)) = false := by decide)
    (hcd : (x == ("__classdict__" : Str)) = false := by decide) : PE X (.Name x pos) (Te (kx X Tb) (E.var i)) := by
  refine pe_imp (pe_var hN hv hd hcd) fun σ H Q ⟨B, F, rho, om, z, R, d, z', e, k⟩ => ?_
  unfold E.var at e
  split at e
  · rename_i d' hd'
    cases e
    obtain ⟨v, h1, h2⟩ := R.sl i _ hd'
    exact ⟨v, h1, k F rho H v (Same.refl F) (List.prefix_refl _) R (.pure h2)⟩
  · rename_i d' hd'
    cases e
    obtain ⟨a, h1, h2, h3⟩ := R.sl i _ hd'
    exact ⟨_, h2, k F rho H _ (Same.refl F) (List.prefix_refl _) R (.own h1)⟩
  · cases e
/-- a constant's reading -/
theorem tc_ok {K : Kx} {d : D} {v : V} (h : ∀ F rho, Rp K F rho d v) : ∀ σ H Q, Te K (E.c d) σ H Q → tC v σ H Q := fun σ H Q ⟨B, F, rho, om, z, g⟩ => g.ret v (.pure (h F rho))
theorem me_int {i j pos} : PE X (.Constant (.int i) j pos) (Te (kx X Tb) (E.c (.int i))) := pe_imp pe_int (tc_ok fun _ _ => .int i)
theorem me_bl {b j pos} : PE X (.Constant (.bool b) j pos) (Te (kx X Tb) (E.c (.bl b))) := pe_imp pe_bl (tc_ok fun _ _ => .bl b)
theorem me_non {j pos} : PE X (.Constant .none j pos) (Te (kx X Tb) (E.c .non)) := pe_imp pe_non (tc_ok fun _ _ => .non)
theorem me_str {x j pos} : PE X (.Constant (.str x) j pos) (Te (kx X Tb) (E.c (.str x))) := pe_imp pe_str (tc_ok fun _ _ => .str x)
/-- a module's constant -/
theorem me_glob {x : Str} {d : D} {v : V} {u : Value} {pos : Pos} (hg : Gl X x) (hm : X.mg x = some u) (r : RelV v u) (h : ∀ F rho, Rp (kx X Tb) F rho d v) (hd : (x == ("__debug__" : Str)) = false := by decide) : PE X (.Name x pos) (Te (kx X Tb) (E.c d)) :=
  pe_imp (pe_glob hg hm r hd) (tc_ok h)

/-! ### arguments -/
theorem ma_nil : PA X [] (Ta (kx X Tb) (E.args [])) := pa_imp pa_nil fun σ H Q ⟨B, F, rho, om, z, g⟩ => g.ret [] .nil
theorem ma_cons {e : Expr} {es : List Expr} {m : M D} {ms : List (M D)} (ha : PE X e (Te (kx X Tb) m)) (hr : PA X es (Ta (kx X Tb) (E.args ms))) (hs : starEach (e :: es) X.env = (false, eval e X.env) :: starEach es X.env := by rfl) :
    PA X (e :: es) (Ta (kx X Tb) (E.args (m :: ms))) := by
  refine pa_imp (pa_cons ha hr hs) fun σ H Q ⟨B, F, rho, om, z, g⟩ => ?_
  refine (g.bnd.imp fun F1 rho1 H1 x z1 y _ _ _ _ _ ⟨F2, rho2, z2, x2, eg1, s1, p1, r1, g1⟩ => ?_).tx (R := rV (kx X Tb))
  refine (g1.bnd.imp fun F3 rho3 H3 xs z3 ys _ _ _ _ _ ⟨F4, rho4, z4, xs4, eg2, s2, p2, r2, g2⟩ => ?_).tx (R := rA (kx X Tb))
  by_cases hp : isPure x2 = true
  · rw [if_pos hp] at g2
    exact g2.ret _ (.cons ((r1.mono s2 p2).of_pure hp) r2)
  · rw [if_neg hp] at g2
    obtain ⟨_, _, _, e, _⟩ := g2
    cases e
/-- one argument, of any kind -/
theorem ta_one {K : Kx} {m : M D} {σ : L2.St} {H : Hp} {Q : List V → Hp → Prop} (h : Te K m σ H fun v H1 => Q [v] H1) : tCons (Te K m) tNil σ H Q := h
end
end Mi

set_option Elab.async false
set_option linter.all false
set_option maxRecDepth 100000
/-! Mi, part D2: operations, displays, calls. -/
namespace Mi
open PySem PySem.Spec PyProof.Rows L2
section
variable {X : Cx} {Tb : Tbs}
/-- a two-place operation of values and its rule -/
def OpV (K : Kx) (r : R2) (f : D → D → Z → Option D) : Prop :=
  ∀ {B : Bs} {F : Hp} {rho : List Addr} {om : Nat → Option Addr} {z : Z} {σ : L2.St} {H : Hp} {x y : D} {xv yv : V} {d : D}, Rl K B F rho om z σ H → Rv K F rho om x xv → Rv K F rho om y yv → f x y z = some d →
    ∀ Q : VK, (∀ F' H' v, Same F F' → Rl K B F' rho om z σ H' → Rv K F' rho om d v → Q v H') → r xv yv H Q
theorem op_go {K : Kx} {r : R2} {f : D → D → Z → Option D} (hv : OpV K r f) {ma mb : M D} : ∀ σ H Q, Te K (E.op f ma mb) σ H Q → tOp r (Te K ma) (Te K mb) σ H Q := by
  rintro σ H Q ⟨B, F, rho, om, z, g⟩
  refine (g.bnd.imp fun _ _ H1 _ _ xv _ _ _ _ _ ⟨F2, rho2, z2, x2, eg1, s1, p1, r1, g1⟩ => ?_).tx (R := rV K)
  refine (g1.bnd.imp fun _ _ H2 _ _ yv _ _ _ _ _ ⟨F3, rho3, z3, y3, eg2, s2, p2, r2, g2⟩ => ?_).tx (R := rV K)
  obtain ⟨R, d, z4, e, k⟩ := g2
  dsimp only at e
  split at e
  · cases e
  · rename_i d' hd
    cases e
    exact hv R (r1.mono s2 p2) r2 hd Q fun F' H' v s R' q => k F' rho3 H' v s (List.prefix_refl _) R' q
def UnV (K : Kx) (r : V → Hp → VK → Prop) (f : D → Z → Option D) : Prop :=
  ∀ {B : Bs} {F : Hp} {rho : List Addr} {om : Nat → Option Addr} {z : Z} {σ : L2.St} {H : Hp} {x : D} {xv : V} {d : D}, Rl K B F rho om z σ H → Rv K F rho om x xv → f x z = some d →
    ∀ Q : VK, (∀ F' H' v, Same F F' → Rl K B F' rho om z σ H' → Rv K F' rho om d v → Q v H') → r xv H Q
theorem un_go {K : Kx} {r : V → Hp → VK → Prop} {f : D → Z → Option D} (hv : UnV K r f) {ma : M D} : ∀ σ H Q, Te K (E.un f ma) σ H Q → tUn r (Te K ma) σ H Q := by
  rintro σ H Q ⟨B, F, rho, om, z, g⟩
  refine (g.bnd.imp fun _ _ H1 _ _ xv _ _ _ _ _ ⟨F2, rho2, z2, x2, eg1, s1, p1, r1, g1⟩ => ?_).tx (R := rV K)
  obtain ⟨R, d, z4, e, k⟩ := g1
  dsimp only at e
  split at e
  · cases e
  · rename_i d' hd
    cases e
    exact hv R r1 hd Q fun F' H' v s R' q => k F' rho2 H' v s (List.prefix_refl _) R' q
/-- a rule of the model and its meaning, together -/
structure OpM (X : Cx) (g : Value → Value → Sem Value) (f : D → D → Z → Option D) : Prop where
  rl : ∃ r, OpR X g r ∧ ∀ Tb, OpV (kx X Tb) r f
theorem me_op {op : Operator} {f : D → D → Z → Option D} {a b : Expr} {pos : Pos} {ma mb : M D} (ho : OpM X (binaryOp op) f) (ha : PE X a (Te (kx X Tb) ma)) (hb : PE X b (Te (kx X Tb) mb)) : PE X (.BinOp a op b pos) (Te (kx X Tb) (E.op f ma mb)) := by
  obtain ⟨r, h1, h2⟩ := ho.rl
  exact pe_imp (pe_op h1 ha hb) (op_go (h2 _))
theorem me_cmp {op : CmpOp} {f : D → D → Z → Option D} {a b : Expr} {pos : Pos} {ma mb : M D} (ho : OpM X (compareOp op) f) (ha : PE X a (Te (kx X Tb) ma)) (hb : PE X b (Te (kx X Tb) mb)) (hm : behindInMarks op b = false) : PE X (.Compare a [op] [b] pos) (Te (kx X Tb) (E.op f ma mb)) := by
  obtain ⟨r, h1, h2⟩ := ho.rl
  exact pe_imp (pe_cmpR h1 ha hb hm) (op_go (h2 _))
/-- the reading of a test by an expression that gives True or False -/
theorem tv_go {K : Kx} {t : TE} {m : M D} (h : ∀ σ H Q, Te K m σ H Q → t σ H Q) : ∀ σ H Q, Tt K (T.val m) σ H Q → tTest t σ H Q := by
  rintro σ H Q ⟨B, F, rho, om, z, g⟩
  refine h σ H _ ((g.bnd.imp fun _ _ H1 _ _ xv _ _ _ _ _ ⟨F2, rho2, z2, x2, eg1, s1, p1, r1, g1⟩ => ?_).tx (R := rV K))
  cases r1 with
  | own _ => obtain ⟨_, _, _, e, _⟩ := g1; cases e
  | pure r1 =>
    cases r1 with
    | bl b => exact ⟨b, rfl, g1.ret b rfl⟩
    | _ => obtain ⟨_, _, _, e, _⟩ := g1; cases e
theorem mt_cmp {op : CmpOp} {f : D → D → Z → Option D} {a b : Expr} {pos : Pos} {ma mb : M D} (ho : OpM X (compareOp op) f) (ha : PE X a (Te (kx X Tb) ma)) (hb : PE X b (Te (kx X Tb) mb)) (hm : behindInMarks op b = false) : PT X (.Compare a [op] [b] pos) (Tt (kx X Tb) (T.val (E.op f ma mb))) := by
  obtain ⟨r, h1, h2⟩ := ho.rl
  exact pt_imp (pt_cmpR h1 ha hb hm) (tv_go (op_go (h2 _)))
theorem mt_val {e : Expr} {m : M D} (h : PE X e (Te (kx X Tb) m)) (he : ∀ whole, isTrue e X.env whole = (do let v ← whole; standAt e.pos; holding [v] (truthy v)) := by intro _; rfl) : PT X e (Tt (kx X Tb) (T.val m)) :=
  pt_imp (pt_val h he) (tv_go fun _ _ _ h => h)
/-- is None, is not None -/
theorem isN_go {K : Kx} {ma : M D} : ∀ σ H Q, Te K (E.isN ma) σ H Q → tIsN (Te K ma) σ H Q := by
  rintro σ H Q ⟨B, F, rho, om, z, g⟩
  refine (g.bnd.imp fun _ _ H1 _ _ xv _ _ _ _ _ ⟨F2, rho2, z2, x2, eg1, s1, p1, r1, g1⟩ => ?_).tx (R := rV K)
  cases r1 with
  | own _ => exact g1.ret _ (.pure (.bl false))
  | pure r1 =>
    cases r1 with
    | non => exact g1.ret _ (.pure (.bl true))
    | _ => exact g1.ret _ (.pure (.bl false))
theorem notN_go {K : Kx} {ma : M D} : ∀ σ H Q, Te K (E.notN ma) σ H Q → tNotN (Te K ma) σ H Q := by
  rintro σ H Q ⟨B, F, rho, om, z, g⟩
  refine (g.bnd.imp fun _ _ H1 _ _ xv _ _ _ _ _ ⟨F2, rho2, z2, x2, eg1, s1, p1, r1, g1⟩ => ?_).tx (R := rV K)
  cases r1 with
  | own _ => exact g1.ret _ (.pure (.bl true))
  | pure r1 =>
    cases r1 with
    | non => exact g1.ret _ (.pure (.bl false))
    | _ => exact g1.ret _ (.pure (.bl true))
theorem me_isN {a : Expr} {ma : M D} {pos pos' : Pos} {j} (ha : PE X a (Te (kx X Tb) ma)) : PE X (.Compare a [.Is] [.Constant .none j pos'] pos) (Te (kx X Tb) (E.isN ma)) := pe_imp (pe_cmp (pc_isN ha) (by rfl)) isN_go
theorem me_notN {a : Expr} {ma : M D} {pos pos' : Pos} {j} (ha : PE X a (Te (kx X Tb) ma)) : PE X (.Compare a [.IsNot] [.Constant .none j pos'] pos) (Te (kx X Tb) (E.notN ma)) := pe_imp (pe_cmp (pc_notN ha) (by rfl)) notN_go
theorem mt_isN {a : Expr} {ma : M D} {pos pos' : Pos} {j} (ha : PE X a (Te (kx X Tb) ma)) : PT X (.Compare a [.Is] [.Constant .none j pos'] pos) (Tt (kx X Tb) (T.val (E.isN ma))) := pt_imp (pt_cmp (pc_isN ha) (by rfl)) (tv_go isN_go)
theorem mt_notN {a : Expr} {ma : M D} {pos pos' : Pos} {j} (ha : PE X a (Te (kx X Tb) ma)) : PT X (.Compare a [.IsNot] [.Constant .none j pos'] pos) (Tt (kx X Tb) (T.val (E.notN ma))) := pt_imp (pt_cmp (pc_notN ha) (by rfl)) (tv_go notN_go)
/-- a < b < c -/
theorem chain_go {K : Kx} {r r' : R2} {f f' : D → D → Z → Option D} (hv : OpV K r f) (hv' : OpV K r' f') {ma mb mc : M D} : ∀ σ H Q, Te K (E.chain f f' ma mb mc) σ H Q → tChain r r' (Te K ma) (Te K mb) (Te K mc) σ H Q := by
  rintro σ H Q ⟨B, F, rho, om, z, g⟩
  refine (g.bnd.imp fun _ _ H1 _ _ xv _ _ _ _ _ ⟨F2, rho2, z2, x2, eg1, s1, p1, r1, g1⟩ => ?_).tx (R := rV K)
  refine (g1.bnd.imp fun _ _ H2 _ _ yv _ _ _ _ _ ⟨F3, rho3, z3, y3, eg2, s2, p2, r2, g2⟩ => ?_).tx (R := rV K)
  obtain ⟨R, d, z4, e, k⟩ := g2
  dsimp only at e
  split at e
  · rename_i hd
    refine hv R (r1.mono s2 p2) r2 hd _ fun F' H' v s R' q => ?_
    cases q with
    | pure q =>
      cases q
      refine ⟨true, rfl, ?_⟩
      rw [if_pos rfl]
      have g3 : Go K (rV K) B F' rho3 om _ z3 σ H' Q := ⟨R', d, z4, e, fun F4 rho4 H4 v4 s4 p4 R4 q4 => k F4 rho4 H4 v4 (s.trans s4) p4 R4 q4⟩
      refine (g3.bnd.imp fun _ _ H5 _ _ wv _ _ _ _ _ ⟨F6, rho6, z6, x6, eg6, s6, p6, r6, g6⟩ => ?_).tx (R := rV K)
      obtain ⟨R7, d7, z7, e7, k7⟩ := g6
      dsimp only at e7
      split at e7
      · rename_i c hc
        cases e7
        exact hv' R7 ((r2.mono s (List.prefix_refl _)).mono s6 p6) r6 hc _ fun F8 H8 v8 s8 R8 q8 => by
          cases q8 with
          | pure q8 =>
            cases q8
            exact k7 F8 _ H8 _ s8 (List.prefix_refl _) R8 (.pure (.bl c))
      · cases e7
  · rename_i hd
    cases e
    refine hv R (r1.mono s2 p2) r2 hd _ fun F' H' v s R' q => ?_
    cases q with
    | pure q =>
      cases q
      refine ⟨false, rfl, ?_⟩
      rw [if_neg (by decide)]
      exact k F' _ H' _ s (List.prefix_refl _) R' (.pure (.bl false))
  · cases e
theorem me_chain {op op' : CmpOp} {f f' : D → D → Z → Option D} {a b c : Expr} {pos : Pos} {ma mb mc : M D} (ho : OpM X (compareOp op) f) (ho' : OpM X (compareOp op') f') (ha : PE X a (Te (kx X Tb) ma)) (hb : PE X b (Te (kx X Tb) mb)) (hc : PE X c (Te (kx X Tb) mc))
    (hm : lastMarks [op, op'] [b, c] = false := by with_unfolding_all rfl) : PE X (.Compare a [op, op'] [b, c] pos) (Te (kx X Tb) (E.chain f f' ma mb mc)) := by
  obtain ⟨r, h1, h2⟩ := ho.rl
  obtain ⟨r', h1', h2'⟩ := ho'.rl
  exact pe_imp (pe_chain h1 h1' ha hb hc hm) (chain_go (h2 _) (h2' _))
theorem mt_chain {op op' : CmpOp} {f f' : D → D → Z → Option D} {a b c : Expr} {pos : Pos} {ma mb mc : M D} (ho : OpM X (compareOp op) f) (ho' : OpM X (compareOp op') f') (ha : PE X a (Te (kx X Tb) ma)) (hb : PE X b (Te (kx X Tb) mb)) (hc : PE X c (Te (kx X Tb) mc))
    (hm : lastMarks [op, op'] [b, c] = false := by with_unfolding_all rfl) : PT X (.Compare a [op, op'] [b, c] pos) (Tt (kx X Tb) (T.val (E.chain f f' ma mb mc))) := by
  obtain ⟨r, h1, h2⟩ := ho.rl
  obtain ⟨r', h1', h2'⟩ := ho'.rl
  exact pt_imp (pt_chain h1 h1' ha hb hc hm) (tv_go (chain_go (h2 _) (h2' _)))

/-! ### the operations' rules -/
theorem two_ints {K : Kx} {F : Hp} {rho : List Addr} {om : Nat → Option Addr} {z : Z} {x y : D} {xv yv : V} {d : D} {g : Int → Int → Option D} {f : D → D → Z → Option D}
    (hf : ∀ x y z, f x y z = match x, y with | .int i, .int j => g i j | _, _ => none) (rx : Rv K F rho om x xv) (ry : Rv K F rho om y yv) (e : f x y z = some d) : ∃ i j, x = .int i ∧ y = .int j ∧ xv = .int i ∧ yv = .int j ∧ g i j = some d := by
  rw [hf] at e
  cases x <;> try (cases e; done)
  cases y <;> try (cases e; done)
  cases rx with
  | pure rx =>
    cases rx
    cases ry with
    | pure ry =>
      cases ry
      exact ⟨_, _, rfl, rfl, rfl, rfl, e⟩
theorem opI0_ok {f : D → D → Z → Option D} {g : Int → Int → V} {g' : Int → Int → D} (hg : ∀ K F rho i j, Rp K F rho (g' i j) (g i j)) (hf : ∀ x y z, f x y z = match x, y with | .int i, .int j => some (g' i j) | _, _ => none) {K : Kx} : OpV K (rI0 g) f := by
  intro B F rho om z σ H x y xv yv d R rx ry e Q k
  obtain ⟨i, j, rfl, rfl, rfl, rfl, e⟩ := two_ints (g := fun i j => some (g' i j)) hf rx ry e
  cases e
  exact ⟨i, j, rfl, rfl, k F H _ (Same.refl F) R (.pure (hg _ _ _ _ _))⟩
theorem opI_ok {f : D → D → Z → Option D} {C : Int → Int → Prop} {g : Int → Int → Int} {h : Int → Int → Option D} (hh : ∀ i j d, h i j = some d → C i j ∧ d = .int (g i j)) (hf : ∀ x y z, f x y z = match x, y with | .int i, .int j => h i j | _, _ => none) {K : Kx} : OpV K (rI C fun i j => .int (g i j)) f := by
  intro B F rho om z σ H x y xv yv d R rx ry e Q k
  obtain ⟨i, j, rfl, rfl, rfl, rfl, e⟩ := two_ints (g := h) hf rx ry e
  obtain ⟨c, rfl⟩ := hh i j d e
  exact ⟨i, j, rfl, rfl, c, k F H _ (Same.refl F) R (.pure (.int _))⟩
theorem o_add : OpM X (binaryOp .Add) O.add := ⟨_, op_add, fun _ => opI0_ok (g' := fun i j => .int (i + j)) (fun _ _ _ _ _ => .int _) fun x y z => by cases x <;> cases y <;> rfl⟩
theorem o_sub : OpM X (binaryOp .Sub) O.sub := ⟨_, op_sub, fun _ => opI0_ok (g' := fun i j => .int (i - j)) (fun _ _ _ _ _ => .int _) fun x y z => by cases x <;> cases y <;> rfl⟩
theorem o_lt : OpM X (compareOp .Lt) O.lt := ⟨_, op_lt, fun _ => opI0_ok (g' := fun i j => .bl (decide (i < j))) (fun _ _ _ _ _ => .bl _) fun x y z => by cases x <;> cases y <;> rfl⟩
theorem o_le : OpM X (compareOp .LtE) O.le := ⟨_, op_le, fun _ => opI0_ok (g' := fun i j => .bl (decide (i ≤ j))) (fun _ _ _ _ _ => .bl _) fun x y z => by cases x <;> cases y <;> rfl⟩
theorem o_gt : OpM X (compareOp .Gt) O.gt := ⟨_, op_gt, fun _ => opI0_ok (g' := fun i j => .bl (decide (j < i))) (fun _ _ _ _ _ => .bl _) fun x y z => by cases x <;> cases y <;> rfl⟩
theorem o_ge : OpM X (compareOp .GtE) O.ge := ⟨_, op_ge, fun _ => opI0_ok (g' := fun i j => .bl (decide (j ≤ i))) (fun _ _ _ _ _ => .bl _) fun x y z => by cases x <;> cases y <;> rfl⟩
theorem bigN_pos : 0 < bigN := by decide
open Classical in
theorem o_mul : OpM X (binaryOp .Mult) O.mul := by
  refine ⟨_, op_mulW, fun _ => opI_ok (h := fun i j => if smI i ∧ smI j then some (.int (i * j)) else none) (fun i j d e => ?_) fun x y z => by cases x <;> cases y <;> rfl⟩
  split at e
  · rename_i c
    cases e
    exact ⟨wide_mul c.1 c.2 bigN_pos bigN_pos (by decide), rfl⟩
  · cases e
open Classical in
theorem o_div : OpM X (binaryOp .FloorDiv) O.div := by
  refine ⟨_, op_fdivW, fun _ => opI_ok (h := fun i j => if 0 < j ∧ smI j then some (.int (i / j)) else none) (fun i j d e => ?_) fun x y z => by cases x <;> cases y <;> rfl⟩
  split at e
  · rename_i c
    cases e
    exact ⟨wide_div c.1 c.2 bigN_pos (by decide), rfl⟩
  · cases e
theorem o_mod : OpM X (binaryOp .Mod) O.mod := by
  refine ⟨_, op_mod, fun _ => opI_ok (h := fun i j => if 0 < j then some (.int (i % j)) else none) (fun i j d e => ?_) fun x y z => by cases x <;> cases y <;> rfl⟩
  split at e
  · rename_i c
    cases e
    exact ⟨c, rfl⟩
  · cases e
theorem me_neg {a : Expr} {pos : Pos} {ma : M D} (ha : PE X a (Te (kx X Tb) ma)) : PE X (.UnaryOp .USub a pos) (Te (kx X Tb) (E.un O.neg ma)) := by
  refine pe_imp (pe_un un_neg ha) (un_go ?_)
  intro B F rho om z σ H x xv d R rx e Q k
  unfold O.neg at e
  split at e
  · cases e
    cases rx with
    | pure rx =>
      cases rx
      exact ⟨_, rfl, k F H _ (Same.refl F) R (.pure (.int _))⟩
  · cases e

/-! ### displays -/
theorem args_len : ∀ {as : List (M D)} {z z' : Z} {xs : List D}, E.args as z = some (xs, z') → xs.length = as.length
  | [], z, z', xs, h => by
    cases h
    rfl
  | a :: as, z, z', xs, h => by
    obtain ⟨x, z1, _, h2⟩ := bnd_some h
    obtain ⟨ys, z2, h3, h4⟩ := bnd_some h2
    split at h4
    · cases h4
      rw [List.length_cons, List.length_cons, args_len h3]
    · cases h4
theorem me_tup {es : List Expr} {k : Nat} {pos : Pos} {ms : List (M D)} (h : PA X es (Ta (kx X Tb) (E.args ms))) (hl : ms.length ≤ 1000 := by decide) : PE X (.Tuple es k pos) (Te (kx X Tb) (E.tup ms)) := by
  refine pe_imp (pe_tup h) fun σ H Q ⟨B, F, rho, om, z, g⟩ => ?_
  refine (g.bnd.imp fun _ _ H1 _ _ vs em _ _ _ _ ⟨F2, rho2, z2, xs, eg1, s1, p1, r1, g1⟩ => ?_).tx (R := rA (kx X Tb))
  obtain ⟨R, d, z4, e, k⟩ := g1
  cases e
  refine ⟨?_, fun p hp => ?_⟩
  · have hv := r1.length
    have hx := args_len eg1
    exact Nat.le_trans (by omega) (show 1000 ≤ sizeLine by decide)
  · obtain ⟨F3, R3, s3, q3⟩ := R.alloc (o := .tup vs) hp
    exact k F3 rho2 _ _ s3 (List.prefix_refl _) R3 (.pure (.tup q3 (r1.mono s3 (List.prefix_refl _))))
end
end Mi

set_option Elab.async false
set_option linter.all false
set_option maxRecDepth 100000
/-! Mi, part D3: lists, calls, tests. -/
namespace Mi
open PySem PySem.Spec PyProof.Rows L2
section
variable {X : Cx} {Tb : Tbs}
/-! ### new lists -/
theorem mf_disp {es : List Expr} {pos : Pos} {ms : List (M D)} (h : PA X es (Ta (kx X Tb) (E.args ms))) (hl : ms.length ≤ 1000 := by decide) : PE X (.List es pos) (Tf (kx X Tb) (N.disp ms)) := by
  refine pe_imp (pe_lst h) fun σ H Q ⟨B, F, rho, om, z, R, xs, z', e, k⟩ => ?_
  refine ⟨B, F, rho, om, z, R, xs, z', e, fun F1 rho1 H1 vs s1 p1 R1 r1 => ⟨?_, fun p hp => ?_⟩⟩
  · have hv := r1.length
    have hx := args_len e
    exact Nat.le_trans (by omega) (show 1000 ≤ sizeLine by decide)
  · obtain ⟨R2, f2⟩ := R1.new (o := .lst vs) hp
    exact k F1 rho1 _ _ s1 p1 R2 ⟨p, vs, rfl, upd_same, f2, r1⟩
/-- a new list laid down -/
theorem me_frz {e : Expr} {m : M (List D)} (h : PE X e (Tf (kx X Tb) m)) : PE X e (Te (kx X Tb) (E.frz m)) := by
  refine pe_imp h fun σ H Q ⟨B, F, rho, om, z, g⟩ => ?_
  refine (g.bnd.imp fun _ _ H1 _ _ v _ _ _ _ _ ⟨F2, rho2, z2, xs, eg1, s1, p1, ⟨p, vs, hv, hp, f, r1⟩, g1⟩ => ?_).tx (R := rF (kx X Tb))
  subst hv
  obtain ⟨R, d, z4, e, k⟩ := g1
  cases e
  obtain ⟨R3, s3⟩ := R.lay f hp
  exact k _ rho2 _ _ s3 (List.prefix_refl _) R3 (.pure (.lst upd_same (r1.mono s3 (List.prefix_refl _))))
/-- a new list joins the shared heap -/
theorem me_shr {e : Expr} {m : M (List D)} (h : PE X e (Tf (kx X Tb) m)) : PE X e (Te (kx X Tb) (E.shr m)) := by
  refine pe_imp h fun σ H Q ⟨B, F, rho, om, z, g⟩ => ?_
  refine (g.bnd.imp fun _ _ H1 _ _ v _ _ _ _ _ ⟨F2, rho2, z2, xs, eg1, s1, p1, ⟨p, vs, hv, hp, f, r1⟩, g1⟩ => ?_).tx (R := rF (kx X Tb))
  subst hv
  obtain ⟨R, d, z4, e, k⟩ := g1
  cases e
  obtain ⟨R3, q3⟩ := R.share (d := .lst xs) f ⟨vs, hp, r1⟩
  exact k _ _ _ _ (Same.refl _) (List.prefix_append _ _) R3 (.pure (.ref q3))

/-! ### items -/
theorem Rps.atI {K : Kx} {F : Hp} {rho : List Addr} {ds : List D} {vs : List V} {i : Int} {d : D} (r : Rps K F rho ds vs) (h : L2.atI ds i = some d) : ∃ v, L2.atI vs i = some v ∧ Rp K F rho d v := by
  unfold L2.atI at h ⊢
  rw [← r.length]
  cases q : ixN ds.length i with
  | none =>
    rw [q] at h
    cases h
  | some j =>
    rw [q] at h
    exact r.get h
theorem ix_ok {K : Kx} : OpV K (fun x y H Q => rIxL K x y H Q ∨ rIxT K x y H Q) O.ix := by
  intro B F rho om z σ H x y xv yv d R rx ry e Q k
  unfold O.ix at e
  split at e
  · rename_i t ds i hc
    obtain ⟨a, xs, rfl, q, h⟩ := cont_ok R rx hc
    cases ry with
    | pure ry =>
      cases ry
      obtain ⟨v, hv, rv⟩ := q.atI e
      have fin := k F H v (Same.refl F) R (.pure rv)
      rcases h with ⟨_, h⟩ | ⟨_, h⟩
      · exact .inl ⟨a, xs, i, v, rfl, rfl, h, hv, fin⟩
      · exact .inr ⟨a, xs, i, v, rfl, rfl, h, hv, fin⟩
  · cases e
theorem me_ix {a b : Expr} {pos : Pos} {ma mb : M D} (ha : PE X a (Te (kx X Tb) ma)) (hb : PE X b (Te (kx X Tb) mb)) (hs : PlainIx b := by exact fun _ _ => rfl) : PE X (.Subscript a b pos) (Te (kx X Tb) (E.op O.ix ma mb)) :=
  pe_imp (pe_ix (ix_list.or ix_tup) ha hb hs) (op_go ix_ok)

/-! ### a def's call -/
theorem call_go {K : Kx} {n : Nat} {mf : Fn} {ms : List (M D)} {es : List Expr} {XE : XK} (hn : ms.length = n) : ∀ σ H Q, Te K (E.call mf ms) σ H Q → tCall (spM n K mf) [] XE (Ta K (E.args ms)) σ H Q := by
  rintro σ H Q ⟨B, F, rho, om, z, g⟩
  refine (g.bnd.imp fun _ _ H1 _ _ vs _ _ _ _ _ ⟨F2, rho2, z2, xs, eg1, s1, p1, r1, g1⟩ => ?_).tx (R := rA K)
  obtain ⟨R, d, z4, e, k⟩ := g1
  dsimp only at e
  split at e
  · cases e
  · rename_i d' h' hd
    cases e
    rw [List.append_nil]
    have hx := args_len eg1
    refine ⟨by rw [← r1.length, hx, hn], F2, rho2, z2.h, xs, R.rh, r1, _, _, hd, fun F' rho' H' v e1 e2 r fr nf nr q => ?_⟩
    exact k F' rho' H' v e1 e2 (R.called e1 e2 r fr nf nr) (.pure q)
theorem me_call {k : Nat} {f : Addr} {fd : FuncData} {ps : List Str} {n : Nat} {mf : Fn} {x : Str} {p pos : Pos} {e : Expr} {es : List Expr} {ms : List (M D)} (G : FnOk X.prog X.w X.K X.mg X.base CX0 k f fd ps (spM n (kx X Tb) mf)) (hr : Room k X.A) (hg : Gl X x) (hm : X.mg x = some (.ref f))
    (hk : PySem.W.keepIn X.K (.ref f) = true) (hb : Binds X.K fd ps []) (ha : PA X (e :: es) (Ta (kx X Tb) (E.args ms))) (hn : ms.length = n := by rfl) (hdb : (x == ("__debug__" : Str)) = false := by decide) (he : starEach (e :: es) X.env = (false, eval e X.env) :: starEach es X.env := by rfl)
    (hpl : (backTo pos (starEach es X.env)).any (·.1) = false := by rfl) : PE X (.Call (.Name x p) (e :: es) [] pos) (Te (kx X Tb) (E.call mf ms)) :=
  pe_imp (pe_call G hr hg hm hk hb .nil pass0 ha hdb he hpl) (call_go (es := es) hn)

/-! ### built-ins by values -/
inductive Rvs (K : Kx) (F : Hp) (rho : List Addr) (om : Nat → Option Addr) : List D → List V → Prop
  | nil : Rvs K F rho om [] []
  | cons {d : D} {v : V} {ds : List D} {vs : List V} : Rv K F rho om d v → Rvs K F rho om ds vs → Rvs K F rho om (d :: ds) (v :: vs)
theorem Rps.rvs {K : Kx} {F : Hp} {rho : List Addr} {om : Nat → Option Addr} : ∀ {ds : List D} {vs : List V}, Rps K F rho ds vs → Rvs K F rho om ds vs
  | _, _, .nil => .nil
  | _, _, .cons h r => .cons (.pure h) (Rps.rvs r)
def CallV (K : Kx) (r : List V → Hp → VK → Prop) (f : List D → Z → Option D) : Prop :=
  ∀ {B : Bs} {F : Hp} {rho : List Addr} {om : Nat → Option Addr} {z : Z} {σ : L2.St} {H : Hp} {xs : List D} {vs : List V} {d : D}, Rl K B F rho om z σ H → Rvs K F rho om xs vs → f xs z = some d →
    ∀ Q : VK, (∀ F' H' v, Same F F' → Rl K B F' rho om z σ H' → Rv K F' rho om d v → Q v H') → r vs H Q
theorem blt1_go {K : Kx} {r : List V → Hp → VK → Prop} {f : List D → Z → Option D} (hv : CallV K r f) {m : M D} : ∀ σ H Q, Te K (E.blt f [m]) σ H Q → tCB r (tCons (Te K m) tNil) σ H Q := by
  rintro σ H Q ⟨B, F, rho, om, z, g⟩
  have g : Go K (rV K) B F rho om (bnd m fun x => fun z => match f [x] z with | none => none | some d => some (d, z)) z σ H Q := g
  refine (g.bnd.imp fun _ _ H1 _ _ v _ _ _ _ _ ⟨F2, rho2, z2, x, eg1, s1, p1, r1, g1⟩ => ?_).tx (R := rV K)
  obtain ⟨R, d, z4, e, k⟩ := g1
  dsimp only at e
  split at e
  · cases e
  · rename_i d' hd
    cases e
    exact hv R (.cons r1 .nil) hd Q fun F' H' v s R' q => k F' rho2 H' v s (List.prefix_refl _) R' q
theorem blt2_go {K : Kx} {r : List V → Hp → VK → Prop} {f : List D → Z → Option D} (hv : CallV K r f) {m m2 : M D} {ms : List (M D)} : ∀ σ H Q, Te K (E.blt f (m :: m2 :: ms)) σ H Q → tCB r (Ta K (E.args (m :: m2 :: ms))) σ H Q := by
  rintro σ H Q ⟨B, F, rho, om, z, g⟩
  have g : Go K (rV K) B F rho om (bnd (E.args (m :: m2 :: ms)) fun xs => fun z => match f xs z with | none => none | some d => some (d, z)) z σ H Q := g
  refine (g.bnd.imp fun _ _ H1 _ _ v _ _ _ _ _ ⟨F2, rho2, z2, x, eg1, s1, p1, r1, g1⟩ => ?_).tx (R := rA K)
  obtain ⟨R, d, z4, e, k⟩ := g1
  dsimp only at e
  split at e
  · cases e
  · rename_i d' hd
    cases e
    exact hv R r1.rvs hd Q fun F' H' v s R' q => k F' rho2 H' v s (List.prefix_refl _) R' q
structure CallM (X : Cx) (g : Value) (f : List D → Z → Option D) : Prop where
  rl : ∃ r, CallR X g r ∧ ∀ Tb, CallV (kx X Tb) r f
theorem me_blt1 {id : String} {f : List D → Z → Option D} {x : Str} {p pos : Pos} {e : Expr} {m : M D} (hc : CallM X (.builtin id) f) (hg : Gl X x) (hm : X.mg x = none) (hv : bootBuiltins x = some (.builtin id)) (ha : PE X e (Te (kx X Tb) m)) (hn : x ≠ "__name__" := by decide) (hdb : (x == ("__debug__" : Str)) = false := by decide)
    (he : starEach [e] X.env = (false, eval e X.env) :: starEach [] X.env := by rfl) (hpl : (backTo pos (starEach [] X.env)).any (·.1) = false := by rfl) : PE X (.Call (.Name x p) [e] [] pos) (Te (kx X Tb) (E.blt f [m])) := by
  obtain ⟨r, h1, h2⟩ := hc.rl
  exact pe_imp (pe_callB h1 hg hm hv (pa_cons ha pa_nil he) hn hdb he hpl) (blt1_go (h2 _))
theorem me_blt2 {id : String} {f : List D → Z → Option D} {x : Str} {p pos : Pos} {e e2 : Expr} {es : List Expr} {m m2 : M D} {ms : List (M D)} (hc : CallM X (.builtin id) f) (hg : Gl X x) (hm : X.mg x = none) (hv : bootBuiltins x = some (.builtin id)) (ha : PA X (e :: e2 :: es) (Ta (kx X Tb) (E.args (m :: m2 :: ms)))) (hn : x ≠ "__name__" := by decide) (hdb : (x == ("__debug__" : Str)) = false := by decide)
    (he : starEach (e :: e2 :: es) X.env = (false, eval e X.env) :: starEach (e2 :: es) X.env := by rfl) (hpl : (backTo pos (starEach (e2 :: es) X.env)).any (·.1) = false := by rfl) : PE X (.Call (.Name x p) (e :: e2 :: es) [] pos) (Te (kx X Tb) (E.blt f (m :: m2 :: ms))) := by
  obtain ⟨r, h1, h2⟩ := hc.rl
  exact pe_imp (pe_callB h1 hg hm hv ha hn hdb he hpl) (blt2_go (h2 _))
theorem me_ty1 {T : String} {f : List D → Z → Option D} {x : Str} {p pos : Pos} {e : Expr} {m : M D} (hc : CallM X (.type T) f) (hg : Gl X x) (hm : X.mg x = none) (hv : bootBuiltins x = some (.type T)) (ha : PE X e (Te (kx X Tb) m)) (hn : x ≠ "__name__" := by decide) (hdb : (x == ("__debug__" : Str)) = false := by decide)
    (he : starEach [e] X.env = (false, eval e X.env) :: starEach [] X.env := by rfl) (hpl : (backTo pos (starEach [] X.env)).any (·.1) = false := by rfl) : PE X (.Call (.Name x p) [e] [] pos) (Te (kx X Tb) (E.blt f [m])) := by
  obtain ⟨r, h1, h2⟩ := hc.rl
  exact pe_imp (pe_callTy h1 hg hm hv (pa_cons ha pa_nil he) hn hdb he hpl) (blt1_go (h2 _))
theorem rvs1 {K : Kx} {F : Hp} {rho : List Addr} {om : Nat → Option Addr} {x : D} {vs : List V} (r : Rvs K F rho om [x] vs) : ∃ v, vs = [v] ∧ Rv K F rho om x v := by
  cases r with
  | cons r t =>
    cases t
    exact ⟨_, rfl, r⟩
theorem rvs2 {K : Kx} {F : Hp} {rho : List Addr} {om : Nat → Option Addr} {x y : D} {vs : List V} (r : Rvs K F rho om [x, y] vs) : ∃ v w, vs = [v, w] ∧ Rv K F rho om x v ∧ Rv K F rho om y w := by
  cases r with
  | cons r t =>
    cases t with
    | cons r2 t =>
      cases t
      exact ⟨_, _, rfl, r, r2⟩
theorem rv_int {K : Kx} {F : Hp} {rho : List Addr} {om : Nat → Option Addr} {i : Int} {v : V} (r : Rv K F rho om (.int i) v) : v = .int i := by
  cases r with
  | pure r =>
    cases r
    rfl
theorem f_len : CallM X (.builtin "len") F.len := by
  refine ⟨_, call_len_seq, ?_⟩
  intro Tb B F rho om z σ H xs vs d R r e Q k
  unfold Mi.F.len at e
  split at e
  · obtain ⟨v, rfl, rv⟩ := rvs1 r
    split at e
    · rename_i t ds hc
      cases e
      obtain ⟨a, ys, rfl, q, h⟩ := cont_ok R rv hc
      refine ⟨a, ys, rfl, ?_, ?_⟩
      · rcases h with ⟨_, h⟩ | ⟨_, h⟩
        · exact .inl h
        · exact .inr h
      · rw [← q.length]
        exact k F H _ (Same.refl F) R (.pure (.int _))
    · cases e
  · cases e
theorem f_abs : CallM X (.builtin "abs") F.abs := by
  refine ⟨_, call_abs, ?_⟩
  intro Tb B F rho om z σ H xs vs d R r e Q k
  unfold Mi.F.abs at e
  split at e
  · cases e
    obtain ⟨v, rfl, rv⟩ := rvs1 r
    obtain rfl := rv_int rv
    exact ⟨_, rfl, k F H _ (Same.refl F) R (.pure (.int _))⟩
  · cases e
theorem f_max2 (hc : X.calm = true) : CallM X (.builtin "max") F.max2 := by
  refine ⟨_, call_max2 hc, ?_⟩
  intro Tb B F rho om z σ H xs vs d R r e Q k
  unfold Mi.F.max2 at e
  split at e
  · cases e
    obtain ⟨v, w, rfl, rv, rw'⟩ := rvs2 r
    obtain rfl := rv_int rv
    obtain rfl := rv_int rw'
    exact ⟨_, _, rfl, k F H _ (Same.refl F) R (.pure (.int _))⟩
  · cases e
theorem f_min2 (hc : X.calm = true) : CallM X (.builtin "min") F.min2 := by
  refine ⟨_, call_min2 hc, ?_⟩
  intro Tb B F rho om z σ H xs vs d R r e Q k
  unfold Mi.F.min2 at e
  split at e
  · cases e
    obtain ⟨v, w, rfl, rv, rw'⟩ := rvs2 r
    obtain rfl := rv_int rv
    obtain rfl := rv_int rw'
    exact ⟨_, _, rfl, k F H _ (Same.refl F) R (.pure (.int _))⟩
  · cases e
theorem f_int1 : CallM X (.type "int") F.int1 := by
  refine ⟨_, call_int1, ?_⟩
  intro Tb B F rho om z σ H xs vs d R r e Q k
  unfold Mi.F.int1 at e
  split at e
  · cases e
    obtain ⟨v, rfl, rv⟩ := rvs1 r
    obtain rfl := rv_int rv
    exact .inl ⟨_, rfl, k F H _ (Same.refl F) R (.pure (.int _))⟩
  · cases e
theorem cont_tup {d : D} {z : Z} {ds : List D} (h : cont d z = some (true, ds)) : d = .tup ds ∨ d = .kt ds := by
  unfold cont at h
  split at h
  · cases h
  · cases h
    exact .inl rfl
  · cases h
    exact .inr rfl
  · cases h
  · split at h <;> cases h
  · split at h <;> cases h
  · cases h
theorem f_tuple : CallM X (.type "tuple") F.tuple := by
  refine ⟨_, call_tuple_of, ?_⟩
  intro Tb B F rho om z σ H xs vs d R r e Q k
  unfold Mi.F.tuple at e
  split at e
  · cases e
  · rename_i hk
    obtain ⟨v, rfl, rv⟩ := rvs1 r
    split at e
    · rename_i t ds hc
      cases e
      obtain ⟨a, ys, rfl, q, h⟩ := cont_ok R rv hc
      refine ⟨a, ys, rfl, ?_⟩
      rcases h with ⟨_, h⟩ | ⟨ht, h⟩
      · refine .inl ⟨h, fun l hl => ?_⟩
        obtain ⟨F3, R3, s3, q3⟩ := R.alloc (o := .tup ys) hl
        exact k F3 _ _ s3 R3 (.pure (.tup q3 (q.mono s3 (List.prefix_refl _))))
      · subst ht
        refine .inr ⟨h, k F H _ (Same.refl F) R ?_⟩
        rcases cont_tup hc with rfl | rfl
        · exact rv
        · exact absurd rfl (hk _)
    · cases e
  · cases e
end
end Mi

set_option Elab.async false
set_option linter.all false
set_option maxRecDepth 100000
/-! Mi, part D4: tests, truth, == of data, in; sums; isinstance. -/
namespace Mi
open PySem PySem.Spec PyProof.Rows L2
section
variable {X : Cx} {Tb : Tbs}
/-! ### and, or, not, if .. else -/
theorem mw_and1 {a : Expr} {m : M Bool} {pos : Pos} (ha : PT X a (Tt (kx X Tb) m)) : PW X (.BoolOp .And [a] pos) (Tt (kx X Tb) m) := pw_and1 ha
theorem mw_or1 {a : Expr} {m : M Bool} {pos : Pos} (ha : PT X a (Tt (kx X Tb) m)) : PW X (.BoolOp .Or [a] pos) (Tt (kx X Tb) m) := pw_or1 ha
theorem mw_and {a b : Expr} {rest : List Expr} {m n : M Bool} {pos : Pos} (ha : PT X a (Tt (kx X Tb) m)) (hb : PW X (.BoolOp .And (b :: rest) pos) (Tt (kx X Tb) n)) : PW X (.BoolOp .And (a :: b :: rest) pos) (Tt (kx X Tb) (T.and m n)) := by
  refine pw_imp (pw_and ha hb) fun σ H Q ⟨B, F, rho, om, z, g⟩ => ?_
  refine (g.bnd.imp fun _ _ H1 _ _ c _ _ _ _ _ ⟨F2, rho2, z2, x, eg1, s1, p1, r1, g1⟩ => ?_).tx (R := rB)
  have r1 : c = x := r1
  subst r1
  cases c with
  | true => exact g1.tx
  | false => exact g1.ret false rfl
theorem mw_or {a b : Expr} {rest : List Expr} {m n : M Bool} {pos : Pos} (ha : PT X a (Tt (kx X Tb) m)) (hb : PW X (.BoolOp .Or (b :: rest) pos) (Tt (kx X Tb) n)) : PW X (.BoolOp .Or (a :: b :: rest) pos) (Tt (kx X Tb) (T.or m n)) := by
  refine pw_imp (pw_or ha hb) fun σ H Q ⟨B, F, rho, om, z, g⟩ => ?_
  refine (g.bnd.imp fun _ _ H1 _ _ c _ _ _ _ _ ⟨F2, rho2, z2, x, eg1, s1, p1, r1, g1⟩ => ?_).tx (R := rB)
  have r1 : c = x := r1
  subst r1
  cases c with
  | true => exact g1.ret true rfl
  | false => exact g1.tx
theorem mt_not {a : Expr} {m : M Bool} {pos : Pos} (ha : PT X a (Tt (kx X Tb) m)) : PT X (.UnaryOp .Not a pos) (Tt (kx X Tb) (T.not m)) := by
  refine pt_imp (pt_not ha) fun σ H Q ⟨B, F, rho, om, z, g⟩ => ?_
  refine (g.bnd.imp fun _ _ H1 _ _ c _ _ _ _ _ ⟨F2, rho2, z2, x, eg1, s1, p1, r1, g1⟩ => ?_).tx (R := rB)
  have r1 : c = x := r1
  subst r1
  exact g1.ret _ rfl
theorem me_ite {c a b : Expr} {t : M Bool} {m n : M D} {pos : Pos} (hc : PT X c (Tt (kx X Tb) t)) (ha : PE X a (Te (kx X Tb) m)) (hb : PE X b (Te (kx X Tb) n)) : PE X (.IfExp c a b pos) (Te (kx X Tb) (E.ite t m n)) := by
  refine pe_imp (pe_ifExp hc ha hb) fun σ H Q ⟨B, F, rho, om, z, g⟩ => ?_
  refine (g.bnd.imp fun _ _ H1 _ _ c _ _ _ _ _ ⟨F2, rho2, z2, x, eg1, s1, p1, r1, g1⟩ => ?_).tx (R := rB)
  have r1 : c = x := r1
  subst r1
  cases c with
  | true => exact g1.tx
  | false => exact g1.tx
/-- .. as values -/
theorem me_one {a : Expr} {op} {m : M D} {pos : Pos} (ha : PE X a (Te (kx X Tb) m)) : PE X (.BoolOp op [a] pos) (Te (kx X Tb) m) := pe_one ha
theorem me_and {a b : Expr} {rest : List Expr} {m n : M D} {pos : Pos} (ha : PE X a (Te (kx X Tb) m)) (hb : PE X (.BoolOp .And (b :: rest) pos) (Te (kx X Tb) n)) : PE X (.BoolOp .And (a :: b :: rest) pos) (Te (kx X Tb) (E.and m n)) := by
  refine pe_imp (pe_and ha hb) fun σ H Q ⟨B, F, rho, om, z, g⟩ => ?_
  refine (g.bnd.imp fun _ _ H1 _ _ c _ _ _ _ _ ⟨F2, rho2, z2, x, eg1, s1, p1, r1, g1⟩ => ?_).tx (R := rV (kx X Tb))
  cases r1 with
  | own _ => obtain ⟨_, _, _, e, _⟩ := g1; cases e
  | pure r1 =>
    cases r1 with
    | bl b =>
      refine ⟨b, rfl, ?_⟩
      cases b with
      | true => exact g1.tx
      | false => exact g1.ret _ (.pure (.bl false))
    | _ => obtain ⟨_, _, _, e, _⟩ := g1; cases e
theorem me_or {a b : Expr} {rest : List Expr} {m n : M D} {pos : Pos} (ha : PE X a (Te (kx X Tb) m)) (hb : PE X (.BoolOp .Or (b :: rest) pos) (Te (kx X Tb) n)) : PE X (.BoolOp .Or (a :: b :: rest) pos) (Te (kx X Tb) (E.or m n)) := by
  refine pe_imp (pe_or ha hb) fun σ H Q ⟨B, F, rho, om, z, g⟩ => ?_
  refine (g.bnd.imp fun _ _ H1 _ _ c _ _ _ _ _ ⟨F2, rho2, z2, x, eg1, s1, p1, r1, g1⟩ => ?_).tx (R := rV (kx X Tb))
  cases r1 with
  | own _ => obtain ⟨_, _, _, e, _⟩ := g1; cases e
  | pure r1 =>
    cases r1 with
    | bl b =>
      refine ⟨b, rfl, ?_⟩
      cases b with
      | true => exact g1.ret _ (.pure (.bl true))
      | false => exact g1.tx
    | _ => obtain ⟨_, _, _, e, _⟩ := g1; cases e
theorem me_not {a : Expr} {m : M D} {pos : Pos} (ha : PE X a (Te (kx X Tb) m)) : PE X (.UnaryOp .Not a pos) (Te (kx X Tb) (E.not m)) := by
  refine pe_imp (pe_not ha) fun σ H Q ⟨B, F, rho, om, z, g⟩ => ?_
  refine (g.bnd.imp fun _ _ H1 _ _ c _ _ _ _ _ ⟨F2, rho2, z2, x, eg1, s1, p1, r1, g1⟩ => ?_).tx (R := rV (kx X Tb))
  cases r1 with
  | own _ => obtain ⟨_, _, _, e, _⟩ := g1; cases e
  | pure r1 =>
    cases r1 with
    | bl b => exact ⟨b, rfl, g1.ret _ (.pure (.bl _))⟩
    | _ => obtain ⟨_, _, _, e, _⟩ := g1; cases e
/-- an expression by its truth -/
theorem Rps.isEmpty {K : Kx} {F : Hp} {rho : List Addr} {ds : List D} {vs : List V} (r : Rps K F rho ds vs) : (!ds.isEmpty) = !vs.isEmpty := by cases r <;> rfl
theorem mt_tru {a : Expr} {m : M D} (ha : PE X a (Te (kx X Tb) m)) (he : ∀ whole, isTrue a X.env whole = (do let v ← whole; standAt a.pos; holding [v] (truthy v)) := by intro _; rfl) : PT X a (Tt (kx X Tb) (T.tru m)) := by
  refine pt_imp (pt_truth ha he) fun σ H Q ⟨B, F, rho, om, z, g⟩ => ?_
  refine (g.bnd.imp fun _ _ H1 _ _ v _ _ _ _ _ ⟨F2, rho2, z2, x, eg1, s1, p1, r1, g1⟩ => ?_).tx (R := rV (kx X Tb))
  obtain ⟨R, k, z4, e, kk⟩ := g1
  dsimp only at e
  split at e
  · rename_i k' hk
    cases e
    refine ⟨k, ?_, kk F2 rho2 H1 k (Same.refl _) (List.prefix_refl _) R rfl⟩
    have byc : ∀ {d : D}, (match cont d z2 with | some (_, ds) => some (!ds.isEmpty) | none => none) = some k → Rv (kx X Tb) F2 rho2 om d v → TruV X.K v H1 k := fun {d} e r => by
      split at e
      · rename_i t ds hc
        cases e
        obtain ⟨a, xs, rfl, q, h⟩ := cont_ok R r hc
        rcases h with ⟨_, h⟩ | ⟨_, h⟩
        · exact .inl ⟨xs, h, q.isEmpty⟩
        · exact .inr (.inl ⟨xs, h, q.isEmpty⟩)
      · cases e
    unfold O.tru at hk
    split at hk
    · cases hk
      cases r1 with
      | pure r1 => cases r1; rfl
    · cases hk
      cases r1 with
      | pure r1 => cases r1; rfl
    · cases hk
      cases r1 with
      | pure r1 => cases r1; rfl
    · exact byc hk r1
  · cases e

/-! ### == -/
mutual
theorem toP_ok {K : Kx} {F H : Hp} {rho : List Addr} (e : Same F H) : ∀ {d : D} {v : V} {p : PyData}, O.toP d = some p → Rp K F rho d v → Dp K H v p
  | .non, _, _, h, .non => by cases h; exact .non
  | .bl b, _, _, h, .bl _ => by cases h; exact .bl b
  | .int i, _, _, h, .int _ => by cases h; exact .int i
  | .str x, _, _, h, .str _ => by cases h; exact .str x
  | .tup xs, _, _, h, .tup q r => by
    rw [O.toP] at h
    cases hp : O.toPs xs with
    | none => rw [hp] at h; cases h
    | some ps =>
      rw [hp] at h
      cases h
      exact .tup (SqT.of (e _ _ q)) (toPs_ok e hp r)
  | .kt xs, _, _, h, .kt q r => by
    rw [O.toP] at h
    cases hp : O.toPs xs with
    | none => rw [hp] at h; cases h
    | some ps =>
      rw [hp] at h
      cases h
      exact .tup (Same.sqt e q) (toPs_ok e hp r)
  | .lst xs, _, _, h, .lst q r => by
    rw [O.toP] at h
    cases hp : O.toPs xs with
    | none => rw [hp] at h; cases h
    | some ps =>
      rw [hp] at h
      cases h
      exact .lst (SqL.of (e _ _ q)) (toPs_ok e hp r)
  | .scr xs, _, _, h, .scr q r => by
    rw [O.toP] at h
    cases hp : O.toPs xs with
    | none => rw [hp] at h; cases h
    | some ps =>
      rw [hp] at h
      cases h
      exact .lst (e.seq q) (toPs_ok e hp r)
  | .ref n, _, _, h, .ref _ => by rw [O.toP] at h <;> first | cases h | (intros; contradiction)
  | .dk n, _, _, h, _ => by rw [O.toP] at h <;> first | cases h | (intros; contradiction)
  | .dt n, _, _, h, _ => by rw [O.toP] at h <;> first | cases h | (intros; contradiction)
  | .ins n fs, _, _, h, _ => by rw [O.toP] at h <;> first | cases h | (intros; contradiction)
theorem toPs_ok {K : Kx} {F H : Hp} {rho : List Addr} (e : Same F H) : ∀ {ds : List D} {vs : List V} {ps : List PyData}, O.toPs ds = some ps → Rps K F rho ds vs → DpAll K H vs ps
  | [], _, _, h, .nil => by cases h; exact .nil
  | d :: ds, _, _, h, .cons q r => by
    rw [O.toPs] at h
    split at h
    · rename_i a as h1 h2
      cases h
      exact .cons (toP_ok e h1 q) (toPs_ok e h2 r)
    · cases h
end
/-- a list that may change, as it stands -/
theorem snap_ok {K : Kx} {B : Bs} {F : Hp} {rho : List Addr} {om : Nat → Option Addr} {z : Z} {σ : L2.St} {H : Hp} {d : D} {v : V} {p : PyData} (R : Rl K B F rho om z σ H) (r : Rv K F rho om d v) (h : O.toP (O.snap d z) = some p) : Dp K H v p := by
  have byc : ∀ {d : D}, O.toP (match cont d z with | some (_, ds) => .lst ds | none => .own 0) = some p → (∀ b ds, cont d z = some (b, ds) → b = false) → Rv K F rho om d v → Dp K H v p := by
    intro d e hb r
    split at e
    · rename_i t ds hc
      obtain ⟨a, xs, rfl, q, h9⟩ := cont_ok R r hc
      have ht := hb _ _ hc
      rcases h9 with ⟨_, h8⟩ | ⟨h7, h8⟩
      · rw [O.toP] at e
        cases hp : O.toPs ds with
        | none => rw [hp] at e; cases e
        | some ps =>
          rw [hp] at e
          cases e
          exact .lst h8 (toPs_ok R.rh.fro hp q)
      · rw [ht] at h7
        cases h7
    · cases e
  cases d with
  | own i =>
    have hb : ∀ b ds, cont (.own i) z = some (b, ds) → b = false := by
      intro b ds hc
      have hc : (match z.s[i]? with | some (.own (.lst xs)) => some (false, xs) | _ => none) = some (b, ds) := hc
      split at hc
      · cases hc
        rfl
      · cases hc
    exact byc (d := .own i) h hb r
  | ref n =>
    have hb : ∀ b ds, cont (.ref n) z = some (b, ds) → b = false := by
      intro b ds hc
      have hc : (match z.h[n]? with | some (.lst xs) => some (false, xs) | _ => none) = some (b, ds) := hc
      split at hc
      · cases hc
        rfl
      · cases hc
    exact byc (d := .ref n) h hb r
  | _ =>
    cases r with
    | pure r => exact toP_ok R.rh.fro h r
theorem OpR.either {f : Value → Value → Sem Value} {r r' : R2} (h : OpR X f r) (h' : OpR X f r') : OpR X f fun x y H Q => r x y H Q ∨ r' x y H Q := by
  intro pins s σ H x y v u Q I rx ry e
  rcases e with e | e
  · exact h pins s σ H x y v u Q I rx ry e
  · exact h' pins s σ H x y v u Q I rx ry e
theorem eqP_ok {K : Kx} {B : Bs} {F : Hp} {rho : List Addr} {om : Nat → Option Addr} {z : Z} {σ : L2.St} {H : Hp} {x y : D} {v w : V} {k : Bool} (R : Rl K B F rho om z σ H) (rx : Rv K F rho om x v) (ry : Rv K F rho om y w) (h : O.eqP x y z = some k) :
    (∃ a b, v = .str a ∧ w = .str b ∧ k = decide (a = b)) ∨ ∃ d e, Dp K H v d ∧ Dp K H w e ∧ SeqAt.shaped d = true ∧ SeqAt.shaped e = true ∧ k = PyData.eqv d e := by
  unfold O.eqP at h
  split at h
  · rename_i a b
    cases h
    refine .inl ⟨a, b, ?_, ?_, rfl⟩
    · cases rx with | pure r => cases r; rfl
    · cases ry with | pure r => cases r; rfl
  · refine .inr ?_
    unfold O.eqD at h
    split at h
    · rename_i a b ha hb
      split at h
      · rename_i c
        cases h
        exact ⟨a, b, snap_ok R rx ha, snap_ok R ry hb, c.1, c.2, rfl⟩
      · cases h
    · cases h
theorem str_dec {a b : Str} : decide (V.str a = V.str b) = decide (a = b) := by
  by_cases h : a = b
  · subst h; simp
  · rw [decide_eq_false h, decide_eq_false (fun e => h (by cases e; rfl))]
theorem o_eq (hu : X.A.units + 64 < cLine) : OpM X (compareOp .Eq) O.eq := by
  refine ⟨_, OpR.either op_eq (op_eqD hu), ?_⟩
  intro Tb B F rho om z σ H x y xv yv d R rx ry e Q k
  unfold O.eq at e
  cases hk : O.eqP x y z with
  | none => rw [hk] at e; cases e
  | some b =>
    rw [hk] at e
    cases e
    rcases eqP_ok R rx ry hk with ⟨a, b, rfl, rfl, rfl⟩ | ⟨d, e, h1, h2, h3, h4, h5⟩
    · refine .inl ⟨rfl, ?_⟩
      rw [str_dec]
      exact k F H _ (Same.refl F) R (.pure (.bl _))
    · subst h5
      exact .inr ⟨d, e, h1, h2, h3, h4, k F H _ (Same.refl F) R (.pure (.bl _))⟩
theorem o_ne (hu : X.A.units + 64 < cLine) : OpM X (compareOp .NotEq) O.ne := by
  refine ⟨_, OpR.either op_ne (op_neD hu), ?_⟩
  intro Tb B F rho om z σ H x y xv yv d R rx ry e Q k
  unfold O.ne at e
  cases hk : O.eqP x y z with
  | none => rw [hk] at e; cases e
  | some b =>
    rw [hk] at e
    cases e
    rcases eqP_ok R rx ry hk with ⟨a, b, rfl, rfl, rfl⟩ | ⟨d, e, h1, h2, h3, h4, h5⟩
    · refine .inl ⟨rfl, ?_⟩
      rw [str_dec]
      exact k F H _ (Same.refl F) R (.pure (.bl _))
    · subst h5
      exact .inr ⟨d, e, h1, h2, h3, h4, k F H _ (Same.refl F) R (.pure (.bl _))⟩
end
end Mi

set_option Elab.async false
set_option linter.all false
set_option maxRecDepth 100000
/-! Mi, part D5: in; sums; isinstance; changes of a list; new lists. -/
namespace Mi
open PySem PySem.Spec PyProof.Rows L2
section
variable {X : Cx} {Tb : Tbs}
/-! ### in -/
theorem flat_rp {K : Kx} {F : Hp} {rho : List Addr} {d : D} {v : V} (r : Rp K F rho d v) (h : O.flat d = true) : flatV v = true := by
  cases r <;> first | rfl | cases h
theorem eqF_rp {K : Kx} {F : Hp} {rho : List Addr} {d e : D} {v w : V} (r : Rp K F rho d v) (q : Rp K F rho e w) (h : O.flat d = true) (h2 : O.flat e = true) : eqV v w = O.eqF d e := by
  cases r <;> try (cases h; done)
  all_goals cases q <;> first | rfl | (cases h2; done)
theorem all_flat {K : Kx} {F : Hp} {rho : List Addr} : ∀ {ds : List D} {vs : List V}, Rps K F rho ds vs → ds.all O.flat = true → vs.all flatV = true
  | _, _, .nil, _ => rfl
  | _, _, .cons r q, h => by
    rw [List.all_cons, Bool.and_eq_true] at h
    rw [List.all_cons, flat_rp r h.1, all_flat q h.2]
    rfl
theorem any_eq {K : Kx} {F : Hp} {rho : List Addr} {x : D} {xv : V} (rx : Rp K F rho x xv) (hx : O.flat x = true) : ∀ {ds : List D} {vs : List V}, Rps K F rho ds vs → ds.all O.flat = true → inV xv vs = ds.any fun y => O.eqF y x
  | _, _, .nil, _ => rfl
  | _, _, .cons r q, h => by
    rw [List.all_cons, Bool.and_eq_true] at h
    have ih := any_eq rx hx q h.2
    unfold inV at ih ⊢
    rw [List.any_cons, List.any_cons, ih, eqF_rp r rx h.1 hx]
theorem o_in : OpM X (compareOp .In) O.isIn := by
  refine ⟨_, op_in_seq, ?_⟩
  intro Tb B F rho om z σ H x y xv yv d R rx ry e Q k
  unfold O.isIn at e
  split at e
  · rename_i t ds hc
    split at e
    · rename_i c
      cases e
      obtain ⟨a, xs, rfl, q, h⟩ := cont_ok R ry hc
      cases rx with
      | own _ => cases c.1
      | pure rx =>
        refine ⟨a, xs, rfl, ?_, flat_rp rx c.1, all_flat q c.2, ?_⟩
        · rcases h with ⟨_, h⟩ | ⟨_, h⟩
          · exact .inl h
          · exact .inr h
        · rw [any_eq rx c.1 q c.2]
          exact k F H _ (Same.refl F) R (.pure (.bl _))
    · cases e
  · cases e
theorem o_notIn : OpM X (compareOp .NotIn) O.notIn := by
  refine ⟨_, op_notIn_seq, ?_⟩
  intro Tb B F rho om z σ H x y xv yv d R rx ry e Q k
  unfold O.notIn at e
  split at e
  · rename_i t ds hc
    split at e
    · rename_i c
      cases e
      obtain ⟨a, xs, rfl, q, h⟩ := cont_ok R ry hc
      cases rx with
      | own _ => cases c.1
      | pure rx =>
        refine ⟨a, xs, rfl, ?_, flat_rp rx c.1, all_flat q c.2, ?_⟩
        · rcases h with ⟨_, h⟩ | ⟨_, h⟩
          · exact .inl h
          · exact .inr h
        · rw [any_eq rx c.1 q c.2]
          exact k F H _ (Same.refl F) R (.pure (.bl _))
    · cases e
  · cases e

/-! ### lists of ints, of bools -/
theorem ofInts_ok {K : Kx} {F : Hp} {rho : List Addr} : ∀ {ds : List D} {vs : List V} {ns : List Int}, Mi.F.ofInts ds = some ns → Rps K F rho ds vs → vs = ns.map V.int
  | [], _, _, h, .nil => by cases h; rfl
  | d :: ds, _, _, h, .cons r q => by
    cases d <;> try (cases h; done)
    rename_i i
    rw [Mi.F.ofInts] at h
    cases hn : Mi.F.ofInts ds with
    | none => rw [hn] at h; cases h
    | some ns =>
      rw [hn] at h
      cases h
      cases r
      rw [List.map_cons, ofInts_ok hn q]
theorem ofBools_ok {K : Kx} {F : Hp} {rho : List Addr} : ∀ {ds : List D} {vs : List V} {ns : List Bool}, Mi.F.ofBools ds = some ns → Rps K F rho ds vs → vs = ns.map V.bl
  | [], _, _, h, .nil => by cases h; rfl
  | d :: ds, _, _, h, .cons r q => by
    cases d <;> try (cases h; done)
    rename_i i
    rw [Mi.F.ofBools] at h
    cases hn : Mi.F.ofBools ds with
    | none => rw [hn] at h; cases h
    | some ns =>
      rw [hn] at h
      cases h
      cases r
      rw [List.map_cons, ofBools_ok hn q]
theorem lstI_ok {K : Kx} {B : Bs} {F : Hp} {rho : List Addr} {om : Nat → Option Addr} {z : Z} {σ : L2.St} {H : Hp} {d : D} {v : V} {ns : List Int} (R : Rl K B F rho om z σ H) (r : Rv K F rho om d v) (h : Mi.F.lstI d z = some ns) : ∃ a, v = .ref a ∧ SqL K H a (ns.map V.int) := by
  unfold Mi.F.lstI at h
  split at h
  · rename_i ds hc
    obtain ⟨a, xs, rfl, q, h9⟩ := cont_ok R r hc
    obtain rfl := ofInts_ok h q
    rcases h9 with ⟨_, h9⟩ | ⟨h8, _⟩
    · exact ⟨a, rfl, h9⟩
    · cases h8
  · cases h
theorem lstB_ok {K : Kx} {B : Bs} {F : Hp} {rho : List Addr} {om : Nat → Option Addr} {z : Z} {σ : L2.St} {H : Hp} {d : D} {v : V} {ns : List Bool} (R : Rl K B F rho om z σ H) (r : Rv K F rho om d v) (h : Mi.F.lstB d z = some ns) : ∃ a, v = .ref a ∧ SqL K H a (ns.map V.bl) := by
  unfold Mi.F.lstB at h
  split at h
  · rename_i ds hc
    obtain ⟨a, xs, rfl, q, h9⟩ := cont_ok R r hc
    obtain rfl := ofBools_ok h q
    rcases h9 with ⟨_, h9⟩ | ⟨h8, _⟩
    · exact ⟨a, rfl, h9⟩
    · cases h8
  · cases h
theorem foldl_max : ∀ (xs : List Int) (x : Int), (xs.foldl (fun a b => if a < b then b else a) x ∈ x :: xs) ∧ ∀ y ∈ x :: xs, y ≤ xs.foldl (fun a b => if a < b then b else a) x
  | [], x => ⟨by simp, fun y h => by simp at h; subst h; exact Int.le_refl _⟩
  | b :: xs, x => by
    obtain ⟨h1, h2⟩ := foldl_max xs (if x < b then b else x)
    refine ⟨?_, fun y hy => ?_⟩
    · rw [List.foldl_cons]
      rcases List.mem_cons.mp h1 with h | h
      · rw [h]
        split
        · simp
        · simp
      · exact List.mem_cons_of_mem _ (List.mem_cons_of_mem _ h)
    · rw [List.foldl_cons]
      have h0 := h2 _ List.mem_cons_self
      rcases List.mem_cons.mp hy with h | h
      · subst h
        refine Int.le_trans ?_ h0
        split <;> omega
      · rcases List.mem_cons.mp h with h | h
        · subst h
          refine Int.le_trans ?_ h0
          split <;> omega
        · exact h2 y (List.mem_cons_of_mem _ h)
theorem foldl_min : ∀ (xs : List Int) (x : Int), (xs.foldl (fun a b => if b < a then b else a) x ∈ x :: xs) ∧ ∀ y ∈ x :: xs, xs.foldl (fun a b => if b < a then b else a) x ≤ y
  | [], x => ⟨by simp, fun y h => by simp at h; subst h; exact Int.le_refl _⟩
  | b :: xs, x => by
    obtain ⟨h1, h2⟩ := foldl_min xs (if b < x then b else x)
    refine ⟨?_, fun y hy => ?_⟩
    · rw [List.foldl_cons]
      rcases List.mem_cons.mp h1 with h | h
      · rw [h]
        split
        · simp
        · simp
      · exact List.mem_cons_of_mem _ (List.mem_cons_of_mem _ h)
    · rw [List.foldl_cons]
      have h0 := h2 _ List.mem_cons_self
      rcases List.mem_cons.mp hy with h | h
      · subst h
        refine Int.le_trans h0 ?_
        split <;> omega
      · rcases List.mem_cons.mp h with h | h
        · subst h
          refine Int.le_trans h0 ?_
          split <;> omega
        · exact h2 y (List.mem_cons_of_mem _ h)
theorem f_sum (hc : X.calm = true) : CallM X (.builtin "sum") Mi.F.sum := by
  refine ⟨_, cr_sum hc, ?_⟩
  intro Tb B F rho om z σ H xs vs d R r e Q k
  unfold Mi.F.sum at e
  split at e
  · obtain ⟨v, rfl, rv⟩ := rvs1 r
    rename_i x
    cases hl : Mi.F.lstI x z with
    | none => rw [hl] at e; cases e
    | some ns =>
      rw [hl] at e
      cases e
      obtain ⟨a, rfl, h⟩ := lstI_ok R rv hl
      exact ⟨a, ns, rfl, h, k F H _ (Same.refl F) R (.pure (.int _))⟩
  · cases e
theorem f_max1 (hc : X.calm = true) : CallM X (.builtin "max") Mi.F.max1 := by
  refine ⟨_, cr_max hc, ?_⟩
  intro Tb B F rho om z σ H xs vs d R r e Q k
  unfold Mi.F.max1 at e
  split at e
  · obtain ⟨v, rfl, rv⟩ := rvs1 r
    rename_i x
    split at e
    · rename_i ns hl
      obtain ⟨a, rfl, h⟩ := lstI_ok R rv hl
      cases ns with
      | nil => cases e
      | cons n ns =>
        cases e
        refine ⟨a, n :: ns, rfl, h, Nat.succ_pos _, fun m hm hle => ?_⟩
        obtain ⟨h1, h2⟩ := foldl_max ns n
        have q : m = ns.foldl (fun a b => if a < b then b else a) n := Int.le_antisymm (h2 m hm) (hle _ h1)
        rw [q]
        exact k F H _ (Same.refl F) R (.pure (.int _))
    · cases e
  · cases e
theorem f_min1 (hc : X.calm = true) : CallM X (.builtin "min") Mi.F.min1 := by
  refine ⟨_, cr_min hc, ?_⟩
  intro Tb B F rho om z σ H xs vs d R r e Q k
  unfold Mi.F.min1 at e
  split at e
  · obtain ⟨v, rfl, rv⟩ := rvs1 r
    rename_i x
    split at e
    · rename_i ns hl
      obtain ⟨a, rfl, h⟩ := lstI_ok R rv hl
      cases ns with
      | nil => cases e
      | cons n ns =>
        cases e
        refine ⟨a, n :: ns, rfl, h, Nat.succ_pos _, fun m hm hle => ?_⟩
        obtain ⟨h1, h2⟩ := foldl_min ns n
        have q : m = ns.foldl (fun a b => if b < a then b else a) n := Int.le_antisymm (hle _ h1) (h2 m hm)
        rw [q]
        exact k F H _ (Same.refl F) R (.pure (.int _))
    · cases e
  · cases e
theorem f_all1 (hc : X.calm = true) : CallM X (.builtin "all") Mi.F.all1 := by
  refine ⟨_, cr_all hc, ?_⟩
  intro Tb B F rho om z σ H xs vs d R r e Q k
  unfold Mi.F.all1 at e
  split at e
  · obtain ⟨v, rfl, rv⟩ := rvs1 r
    rename_i x
    cases hl : Mi.F.lstB x z with
    | none => rw [hl] at e; cases e
    | some ns =>
      rw [hl] at e
      cases e
      obtain ⟨a, rfl, h⟩ := lstB_ok R rv hl
      exact ⟨a, ns, rfl, h, k F H _ (Same.refl F) R (.pure (.bl _))⟩
  · cases e
theorem f_any1 (hc : X.calm = true) : CallM X (.builtin "any") Mi.F.any1 := by
  refine ⟨_, cr_any hc, ?_⟩
  intro Tb B F rho om z σ H xs vs d R r e Q k
  unfold Mi.F.any1 at e
  split at e
  · obtain ⟨v, rfl, rv⟩ := rvs1 r
    rename_i x
    cases hl : Mi.F.lstB x z with
    | none => rw [hl] at e; cases e
    | some ns =>
      rw [hl] at e
      cases e
      obtain ⟨a, rfl, h⟩ := lstB_ok R rv hl
      exact ⟨a, ns, rfl, h, k F H _ (Same.refl F) R (.pure (.bl _))⟩
  · cases e

/-! ### isinstance(x, T), T a built-in class -/
theorem tyName_ok {K : Kx} {B : Bs} {F : Hp} {rho : List Addr} {om : Nat → Option Addr} {z : Z} {σ : L2.St} {H : Hp} {d : D} {v : V} {t : String} (R : Rl K B F rho om z σ H) (r : Rv K F rho om d v) (h : Mi.F.tyName d z = some t) : TyX K H v (.type t) := by
  cases r with
  | pure r =>
    cases r with
    | non => cases h; exact .base .non
    | bl b => cases h; exact .base (.bl b)
    | int b => cases h; exact .base (.int b)
    | str b => cases h; exact .base (.str b)
    | tup q _ =>
      cases h
      exact .base (.tup (R.rh.fro _ _ q))
    | kt q _ =>
      cases h
      rcases Same.sqt R.rh.fro q with (q | ⟨o, q⟩) | ⟨o, its, n, q, c, _⟩
      · exact .base (.tup q)
      · exact .fTuple q
      · exact .kTuple q c
    | lst q _ =>
      cases h
      exact .base (.lst (R.rh.fro _ _ q))
    | @ref n a q =>
      have h : (match z.h[n]? with | some (.lst _) => some "list" | _ => none) = some t := h
      split at h
      · rename_i xs hx
        cases h
        obtain ⟨ys, h1, h2⟩ := R.rh.obs n _ a hx q
        exact .base (.lst h1)
      · cases h
    | _ => cases h
  | @own i a q =>
    have h : (match z.s[i]? with | some (.own (.lst _)) => some "list" | _ => none) = some t := h
    split at h
    · rename_i xs hx
      cases h
      obtain ⟨a', h1, _, h2⟩ := R.sl i _ hx
      rw [q] at h1
      cases h1
      obtain ⟨ys, h3, h4⟩ := h2
      exact .base (.lst h3)
    · cases h
/-- the answer: T the class's name -/
def F.isi (T : String) (x : D) (z : Z) : Option D := match Mi.F.tyName x z with
  | some t => (kitB t T).map .bl
  | none => none
theorem isi_go {K : Kx} {T : String} {m : M D} : ∀ σ H Q, Te K (E.un (Mi.F.isi T) m) σ H Q → tCB (rIsi K) (tCons (Te K m) (tCons (tC (.ty T)) tNil)) σ H Q := by
  rintro σ H Q ⟨B, F, rho, om, z, g⟩
  refine (g.bnd.imp fun _ _ H1 _ _ v _ _ _ _ _ ⟨F2, rho2, z2, x, eg1, s1, p1, r1, g1⟩ => ?_).tx (R := rV K)
  obtain ⟨R, d, z4, e, k⟩ := g1
  dsimp only at e
  split at e
  · cases e
  · rename_i d' hd
    cases e
    unfold Mi.F.isi at hd
    split at hd
    · rename_i t ht
      cases hk : kitB t T with
      | none => rw [hk] at hd; cases hd
      | some b =>
        rw [hk] at hd
        cases hd
        show rIsi K [v, .ty T] H1 Q
        exact ⟨v, .ty T, .type t, .type T, b, rfl, .ty T, tyName_ok R r1 ht, kit_ty hk, k F2 rho2 H1 _ (Same.refl _) (List.prefix_refl _) R (.pure (.bl b))⟩
    · cases hd
theorem me_isi {T : String} {Tn : Str} {p p2 pos : Pos} {e : Expr} {m : M D} (hg : Gl X "isinstance") (hm : X.mg "isinstance" = none) (hg2 : Gl X Tn) (hm2 : X.mg Tn = none) (hv2 : bootBuiltins Tn = some (.type T)) (ha : PE X e (Te (kx X Tb) m)) (hn : Tn ≠ "__name__" := by decide) (hdb : (Tn == ("__debug__" : Str)) = false := by decide)
    (hv : bootBuiltins "isinstance" = some (.builtin "isinstance") := by decide +kernel) (he : starEach [e, .Name Tn p2] X.env = (false, eval e X.env) :: starEach [.Name Tn p2] X.env := by rfl) (he2 : starEach [.Name Tn p2] X.env = (false, eval (.Name Tn p2) X.env) :: starEach [] X.env := by rfl)
    (hpl : (backTo pos (starEach [.Name Tn p2] X.env)).any (·.1) = false := by rfl) : PE X (.Call (.Name "isinstance" p) [e, .Name Tn p2] [] pos) (Te (kx X Tb) (E.un (Mi.F.isi T) m)) :=
  pe_imp (pe_callB call_isi hg hm hv (pa_cons ha (pa_cons (pe_bltn hg2 hm2 hv2 (v := .ty T) rfl hn hdb) pa_nil he2) he) (by decide) (by decide) he hpl) isi_go

/-! ### new lists from lists -/
theorem mf_list {p pos : Pos} {e : Expr} {m : M D} (hg : Gl X "list") (hm : X.mg "list" = none) (ha : PE X e (Te (kx X Tb) m)) (hv : bootBuiltins "list" = some (.type "list") := by decide +kernel)
    (he : starEach [e] X.env = (false, eval e X.env) :: starEach [] X.env := by rfl) (hpl : (backTo pos (starEach [] X.env)).any (·.1) = false := by rfl) : PE X (.Call (.Name "list" p) [e] [] pos) (Tf (kx X Tb) (N.ofSeq m)) := by
  refine pe_imp (pe_callTy call_list_of hg hm hv (pa_cons ha pa_nil he) (by decide) (by decide) he hpl) fun σ H Q ⟨B, F, rho, om, z, g⟩ => ?_
  refine (g.bnd.imp fun _ _ H1 _ _ v _ _ _ _ _ ⟨F2, rho2, z2, x, eg1, s1, p1, r1, g1⟩ => ?_).tx (R := rV (kx X Tb))
  obtain ⟨R, d, z4, e, k⟩ := g1
  dsimp only at e
  split at e
  · rename_i t ds hc
    cases e
    obtain ⟨a, xs, rfl, q, h⟩ := cont_ok R r1 hc
    refine ⟨a, xs, rfl, ?_, fun l hl => ?_⟩
    · rcases h with ⟨_, h⟩ | ⟨_, h⟩
      · exact .inl h
      · exact .inr h
    · obtain ⟨R2, f2⟩ := R.new (o := .lst xs) hl
      exact k F2 rho2 _ _ (Same.refl _) (List.prefix_refl _) R2 ⟨l, xs, rfl, upd_same, f2, q⟩
  · cases e
theorem mo_none : PO X none (To (kx X Tb) (N.part none)) := po_imp po_none fun σ H Q ⟨B, F, rho, om, z, g⟩ => g.ret none rfl
theorem mo_some {e : Expr} {m : M D} (h : PE X e (Te (kx X Tb) m)) : PO X (some e) (To (kx X Tb) (N.part (some m))) := by
  refine po_imp (po_some h) fun σ H Q ⟨B, F, rho, om, z, g⟩ => ?_
  refine (g.bnd.imp fun _ _ H1 _ _ v _ _ _ _ _ ⟨F2, rho2, z2, x, eg1, s1, p1, r1, g1⟩ => ?_).tx (R := rV (kx X Tb))
  cases r1 with
  | own _ => obtain ⟨_, _, _, e, _⟩ := g1; cases e
  | pure r1 =>
    cases r1 with
    | int i => exact ⟨i, rfl, g1.ret _ rfl⟩
    | _ => obtain ⟨_, _, _, e, _⟩ := g1; cases e
theorem cut_rps {K : Kx} {F : Hp} {rho : List Addr} {ds : List D} {vs : List V} (r : Rps K F rho ds vs) (lo hi : Option Int) : Rps K F rho (N.cutL ds lo hi) (cutV vs lo hi) := by
  unfold N.cutL cutV
  rw [r.length]
  exact (r.drop _).take _
theorem mf_slice {e : Expr} {lo hi : Option Expr} {p2 pos : Pos} {m : M D} {ml mh : Option (M D)} (he : PE X e (Te (kx X Tb) m)) (hl : PO X lo (To (kx X Tb) (N.part ml))) (hu : PO X hi (To (kx X Tb) (N.part mh))) : PE X (.Subscript e (.Slice lo hi none p2) pos) (Tf (kx X Tb) (N.slice m ml mh)) := by
  refine pe_imp (pe_slice sl_list he hl hu) fun σ H Q ⟨B, F, rho, om, z, g⟩ => ?_
  refine (g.bnd.imp fun _ _ H1 _ _ v _ _ _ _ _ ⟨F2, rho2, z2, x, eg1, s1, p1, r1, g1⟩ => ?_).tx (R := rV (kx X Tb))
  refine (g1.bnd.imp fun _ _ H3 _ _ l _ _ _ _ _ ⟨F4, rho4, z4, l', eg2, s2, p2, r2, g2⟩ => ?_).tx (R := rO)
  refine (g2.bnd.imp fun _ _ H5 _ _ u _ _ _ _ _ ⟨F6, rho6, z6, u', eg3, s3, p3, r3, g3⟩ => ?_).tx (R := rO)
  have r2 : l = l' := r2
  have r3 : u = u' := r3
  subst r2 r3
  obtain ⟨R, d, z7, e, k⟩ := g3
  dsimp only at e
  split at e
  · rename_i ds hc
    cases e
    obtain ⟨a, xs, rfl, q, h⟩ := cont_ok R ((r1.mono s2 p2).mono s3 p3) hc
    rcases h with ⟨_, h⟩ | ⟨h8, _⟩
    · refine ⟨a, xs, rfl, h, fun p hp => ?_⟩
      obtain ⟨R2, f2⟩ := R.new (o := .lst (cutV xs l u)) hp
      exact k F6 rho6 _ _ (Same.refl _) (List.prefix_refl _) R2 ⟨p, _, rfl, upd_same, f2, cut_rps q l u⟩
    · cases h8
  · cases e
/-- a list that is no module's constant -/
theorem cont_lst {K : Kx} {B : Bs} {F : Hp} {rho : List Addr} {om : Nat → Option Addr} {z : Z} {σ : L2.St} {H : Hp} {d : D} {v : V} {ds : List D} (R : Rl K B F rho om z σ H) (r : Rv K F rho om d v) (e : cont d z = some (false, ds)) (hs : ∀ xs, d ≠ .scr xs) : ∃ a xs, v = .ref a ∧ Rps K F rho ds xs ∧ H a = some (.lst xs) := by
  cases r with
  | pure r =>
    cases r with
    | lst h q =>
      cases e
      exact ⟨_, _, rfl, q, R.rh.fro _ _ h⟩
    | scr h q => exact absurd rfl (hs _)
    | @ref n a h =>
      have e : (match z.h[n]? with | some (.lst xs) => some (false, xs) | _ => none) = some (false, ds) := e
      split at e
      · rename_i xs hx
        cases e
        obtain ⟨ys, h1, h2⟩ := R.rh.obs n _ a hx h
        exact ⟨a, ys, rfl, h2, h1⟩
      · cases e
    | _ => cases e
  | @own i a h =>
    have e : (match z.s[i]? with | some (.own (.lst xs)) => some (false, xs) | _ => none) = some (false, ds) := e
    split at e
    · rename_i xs hx
      cases e
      obtain ⟨a', h1, _, h2⟩ := R.sl i _ hx
      rw [h] at h1
      cases h1
      obtain ⟨ys, h3, h4⟩ := h2
      exact ⟨a, ys, rfl, h4, h3⟩
    · cases e
theorem szl_ok {n : Nat} (h : n < szl) : n < sizeLine := Nat.lt_trans h (by decide)
theorem mf_cat {a b : Expr} {pos : Pos} {ma mb : M D} (ha : PE X a (Te (kx X Tb) ma)) (hb : PE X b (Te (kx X Tb) mb)) : PE X (.BinOp a .Add b pos) (Tf (kx X Tb) (N.cat ma mb)) := by
  refine pe_imp (pe_op op_cat ha hb) fun σ H Q ⟨B, F, rho, om, z, g⟩ => ?_
  refine (g.bnd.imp fun _ _ H1 _ _ v _ _ _ _ _ ⟨F2, rho2, z2, x, eg1, s1, p1, r1, g1⟩ => ?_).tx (R := rV (kx X Tb))
  refine (g1.bnd.imp fun _ _ H3 _ _ w _ _ _ _ _ ⟨F4, rho4, z4, y, eg2, s2, p2, r2, g2⟩ => ?_).tx (R := rV (kx X Tb))
  obtain ⟨R, d, z7, e, k⟩ := g2
  dsimp only at e
  split at e
  · cases e
  · cases e
  · rename_i hx hy
    split at e
    · rename_i ds es h1 h2
      split at e
      · rename_i hz
        cases e
        obtain ⟨a, xs, rfl, q1, h1⟩ := cont_lst R (r1.mono s2 p2) h1 hx
        obtain ⟨b, ys, rfl, q2, h2⟩ := cont_lst R r2 h2 hy
        refine ⟨a, b, xs, ys, rfl, rfl, h1, h2, ?_, fun p hp => ?_⟩
        · rw [← q1.length, ← q2.length]
          exact Nat.le_of_lt (szl_ok hz)
        · obtain ⟨R2, f2⟩ := R.new (o := .lst (xs ++ ys)) hp
          exact k F4 rho4 _ _ (Same.refl _) (List.prefix_refl _) R2 ⟨p, _, rfl, upd_same, f2, q1.append q2⟩
      · cases e
    · cases e

/-! ### changes of a list -/
/-- a change, by values: what the rule asks where the list at l holds xs -/
def ChgV (r : V → List V → Hp → VK → Prop) (f : List D → List D → Option (D × List D)) : Prop :=
  ∀ {K : Kx} {F : Hp} {rho : List Addr} {H : Hp} {l : Addr} {xs vs : List V} {ds as ds' : List D} {d : D}, Same F H → H l = some (.lst xs) → Rps K F rho ds xs → Rps K F rho as vs → f ds as = some (d, ds') →
    ∀ Q : VK, (∀ v xs', Rp K F rho d v → Rps K F rho ds' xs' → Q v (upd H l (.lst xs'))) → r (.ref l) vs H Q
theorem chg_go {K : Kx} {r : V → List V → Hp → VK → Prop} {f : List D → List D → Option (D × List D)} (hv : ChgV r f) {B : Bs} {F : Hp} {rho : List Addr} {om : Nat → Option Addr} {z : Z} {σ : L2.St} {H : Hp} {x : D} {v : V} {xs : List D} {vs : List V} {Q : VK} (r1 : Rv K F rho om x v) (r2 : Rps K F rho xs vs)
    (g : Go K (rV K) B F rho om (E.chgF f x xs) z σ H Q) : r v vs H Q := by
  obtain ⟨R, d, z7, e, k⟩ := g
  cases x with
  | own i =>
    cases r1 with
    | pure r1 => cases r1
    | own h =>
      have e : (match z.s[i]? with
        | some (.own (.lst ds)) => match f ds xs with
          | none => none
          | some (d, ds') => some (d, (⟨z.s.set i (.own (.lst ds')), z.h⟩ : Z))
        | _ => none) = some (d, z7) := e
      split at e
      · rename_i ds hs
        split at e
        · cases e
        · rename_i d' ds' hf
          cases e
          obtain ⟨a', h1, h5, h2⟩ := R.sl i _ hs
          rw [h] at h1
          cases h1
          obtain ⟨ys, h3, h4⟩ := h2
          exact hv R.rh.fro h3 h4 r2 hf Q fun v xs' q1 q2 => k F rho _ _ (Same.refl _) (List.prefix_refl _) (R.mutOwn h hs ⟨xs', upd_same, q2⟩) (.pure q1)
      · cases e
  | ref n =>
    cases r1 with
    | pure r1 =>
      cases r1 with
      | ref h =>
        have e : (match z.h[n]? with
          | some (.lst ds) => match f ds xs with
            | none => none
            | some (d, ds') => some (d, (⟨z.s, z.h.set n (.lst ds')⟩ : Z))
          | _ => none) = some (d, z7) := e
        split at e
        · rename_i ds hs
          split at e
          · cases e
          · rename_i d' ds' hf
            cases e
            obtain ⟨ys, h3, h4⟩ := R.rh.obs n _ _ hs h
            exact hv R.rh.fro h3 h4 r2 hf Q fun v xs' q1 q2 => k F rho _ _ (Same.refl _) (List.prefix_refl _) (R.mutRef h ⟨xs', upd_same, q2⟩) (.pure q1)
        · cases e
  | _ => cases e
/-- what may be changed is a list -/
theorem chg_ty {K : Kx} {B : Bs} {F : Hp} {rho : List Addr} {om : Nat → Option Addr} {z : Z} {σ : L2.St} {H : Hp} {x : D} {v : V} (R : Rl K B F rho om z σ H) (r1 : Rv K F rho om x v) (hx : E.isLst x z = true) : tyV K "list" v H := by
  have byc : ∀ ds b, cont x z = some (b, ds) → (∀ xs, x ≠ .tup xs ∧ x ≠ .kt xs) → tyV K "list" v H := fun ds b hc hn => by
    obtain ⟨a, xs, rfl, q, h⟩ := cont_ok R r1 hc
    rcases h with ⟨_, h⟩ | ⟨hb, _⟩
    · exact .inl ⟨rfl, xs, h⟩
    · rw [hb] at hc
      rcases cont_tup hc with c | c
      · exact absurd c (hn ds).1
      · exact absurd c (hn ds).2
  cases x with
  | own i =>
    cases hc : cont (.own i) z with
    | none =>
      unfold E.isLst at hx
      rw [hc] at hx
      cases hx
    | some p => exact byc p.2 p.1 hc (fun xs => ⟨(fun e => nomatch e), (fun e => nomatch e)⟩)
  | ref i =>
    cases hc : cont (.ref i) z with
    | none =>
      unfold E.isLst at hx
      rw [hc] at hx
      cases hx
    | some p => exact byc p.2 p.1 hc (fun xs => ⟨(fun e => nomatch e), (fun e => nomatch e)⟩)
  | _ => cases hx
theorem bm_go {K : Kx} {r : V → List V → Hp → VK → Prop} {f : List D → List D → Option (D × List D)} (hv : ChgV r f) {m : M D} {ms : List (M D)} : ∀ σ H Q, Te K (E.chg f m ms) σ H Q → tBM K "list" r (Te K m) (Ta K (E.args ms)) σ H Q := by
  rintro σ H Q ⟨B, F, rho, om, z, g⟩
  refine (g.bnd.imp fun _ _ H1 _ _ v _ _ _ _ _ ⟨F2, rho2, z2, x, eg1, s1, p1, r1, g1⟩ => ?_).tx (R := rV K)
  obtain ⟨R, d, z7, e, k⟩ := g1
  dsimp only at e
  split at e
  · rename_i hx
    refine ⟨chg_ty R r1 hx, ?_⟩
    have g2 : Go K (rV K) B F2 rho2 om (bnd (E.args ms) fun xs => E.chgF f x xs) z2 σ H1 Q := ⟨R, d, z7, e, k⟩
    refine (g2.bnd.imp fun _ _ H3 _ _ vs _ _ _ _ _ ⟨F4, rho4, z4, xs, eg4, s4, p4, r4, g4⟩ => ?_).tx (R := rA K)
    exact chg_go hv (r1.mono s4 p4) r4 g4
  · cases e
theorem bm0_go {K : Kx} {r : V → List V → Hp → VK → Prop} {f : List D → List D → Option (D × List D)} (hv : ChgV r f) {m : M D} : ∀ σ H Q, Te K (E.chg f m []) σ H Q → tBM0 K "list" r (Te K m) σ H Q := by
  rintro σ H Q ⟨B, F, rho, om, z, g⟩
  refine (g.bnd.imp fun _ _ H1 _ _ v _ _ _ _ _ ⟨F2, rho2, z2, x, eg1, s1, p1, r1, g1⟩ => ?_).tx (R := rV K)
  obtain ⟨R, d, z7, e, k⟩ := g1
  dsimp only at e
  split at e
  · rename_i hx
    exact ⟨chg_ty R r1 hx, chg_go hv r1 .nil ⟨R, d, z7, e, k⟩⟩
  · cases e
theorem v_append : ChgV rAppend U.append := by
  intro K F rho H l xs vs ds as ds' d s h q1 q2 e Q k
  unfold U.append at e
  split at e
  · rename_i x
    split at e
    · rename_i hz
      cases e
      cases q2 with
      | cons r t =>
        cases t
        exact ⟨l, xs, _, rfl, rfl, h, by rw [← q1.length]; exact szl_ok hz, k _ _ .non (q1.append (.one r))⟩
    · cases e
  · cases e
theorem v_pop : ChgV rPop U.pop := by
  intro K F rho H l xs vs ds as ds' d s h q1 q2 e Q k
  unfold U.pop at e
  split at e
  · cases q2
    split at e
    · rename_i d' hd
      cases e
      obtain ⟨v, hv, rv⟩ := q1.get hd
      exact ⟨l, xs, v, rfl, rfl, h, by rw [← q1.length]; exact hv, k _ _ rv q1.dropLast⟩
    · cases e
  · cases e
theorem v_popAt : ChgV rPopAt U.popAt := by
  intro K F rho H l xs vs ds as ds' d s h q1 q2 e Q k
  unfold U.popAt at e
  split at e
  · rename_i i
    split at e
    · rename_i hi
      split at e
      · rename_i kk hk
        split at e
        · rename_i d' hd
          cases e
          cases q2 with
          | cons r t =>
            cases t
            cases r
            obtain ⟨v, hv, rv⟩ := q1.get hd
            exact ⟨l, xs, i, kk, v, rfl, rfl, h, hi.1, hi.2, by rw [← q1.length]; exact (ixN_seq hk).1, hv, k _ _ rv (q1.eraseIdx kk)⟩
        · cases e
      · cases e
    · cases e
  · cases e
theorem v_extend : ChgV rExtend U.extend := by
  intro K F rho H l xs vs ds as ds' d s h q1 q2 e Q k
  unfold U.extend at e
  split at e
  · rename_i ys
    split at e
    · rename_i hz
      cases e
      cases q2 with
      | cons r t =>
        cases t
        cases r with
        | @lst b zs _ hb hr =>
          exact ⟨l, b, xs, zs, rfl, rfl, h, s _ _ hb, by rw [← q1.length, ← hr.length]; exact Nat.le_of_lt (szl_ok hz), k _ _ .non (q1.append hr)⟩
    · cases e
  · cases e
section
variable {o e : Expr} {es : List Expr} {apos cpos : Pos} {m : M D} {ms : List (M D)}
theorem me_append (ho : PE X o (Te (kx X Tb) m)) (ha : PA X (e :: es) (Ta (kx X Tb) (E.args ms))) (hbase : attributeBase o "append" X.env (eval o X.env) = eval o X.env := by rfl)
    (hfew : ((backTo cpos (starEach (e :: es) X.env)).all (fun x => !x.1) && (backToKw cpos (keywordEach [] X.env)).all (fun x => x.1.isSome) && decide ((e :: es).length + ([] : List Keyword).length + (if ([] : List Keyword).isEmpty then 0 else 1) < 30)) = true := by rfl)
    (hline : (apos.endLine == cpos.line) = true := by rfl) (hs : starEach (e :: es) X.env = (false, eval e X.env) :: starEach es X.env := by rfl) (hplain : (backTo cpos (starEach es X.env)).any (·.1) = false := by rfl) :
    PE X (.Call (.Attribute o "append" apos) (e :: es) [] cpos) (Te (kx X Tb) (E.chg U.append m ms)) :=
  pe_imp (pe_bm PySem.F.plainAttrs_list PySem.F.slot_list_append PySem.F.type_list_append mt_append ho ha hbase hfew hline hs hplain) (bm_go v_append)
theorem me_extend (ho : PE X o (Te (kx X Tb) m)) (ha : PA X (e :: es) (Ta (kx X Tb) (E.args ms))) (hbase : attributeBase o "extend" X.env (eval o X.env) = eval o X.env := by rfl)
    (hfew : ((backTo cpos (starEach (e :: es) X.env)).all (fun x => !x.1) && (backToKw cpos (keywordEach [] X.env)).all (fun x => x.1.isSome) && decide ((e :: es).length + ([] : List Keyword).length + (if ([] : List Keyword).isEmpty then 0 else 1) < 30)) = true := by rfl)
    (hline : (apos.endLine == cpos.line) = true := by rfl) (hs : starEach (e :: es) X.env = (false, eval e X.env) :: starEach es X.env := by rfl) (hplain : (backTo cpos (starEach es X.env)).any (·.1) = false := by rfl) :
    PE X (.Call (.Attribute o "extend" apos) (e :: es) [] cpos) (Te (kx X Tb) (E.chg U.extend m ms)) :=
  pe_imp (pe_bm PySem.F.plainAttrs_list PySem.F.slot_list_extend PySem.F.type_list_extend mt_extend ho ha hbase hfew hline hs hplain) (bm_go v_extend)
theorem me_popAt (ho : PE X o (Te (kx X Tb) m)) (ha : PA X (e :: es) (Ta (kx X Tb) (E.args ms))) (hbase : attributeBase o "pop" X.env (eval o X.env) = eval o X.env := by rfl)
    (hfew : ((backTo cpos (starEach (e :: es) X.env)).all (fun x => !x.1) && (backToKw cpos (keywordEach [] X.env)).all (fun x => x.1.isSome) && decide ((e :: es).length + ([] : List Keyword).length + (if ([] : List Keyword).isEmpty then 0 else 1) < 30)) = true := by rfl)
    (hline : (apos.endLine == cpos.line) = true := by rfl) (hs : starEach (e :: es) X.env = (false, eval e X.env) :: starEach es X.env := by rfl) (hplain : (backTo cpos (starEach es X.env)).any (·.1) = false := by rfl) :
    PE X (.Call (.Attribute o "pop" apos) (e :: es) [] cpos) (Te (kx X Tb) (E.chg U.popAt m ms)) :=
  pe_imp (pe_bm PySem.F.plainAttrs_list PySem.F.slot_list_pop PySem.F.type_list_pop mt_popAt ho ha hbase hfew hline hs hplain) (bm_go v_popAt)
theorem me_pop (ho : PE X o (Te (kx X Tb) m)) (hbase : attributeBase o "pop" X.env (eval o X.env) = eval o X.env := by rfl) (hline : (apos.endLine == cpos.line) = true := by rfl) :
    PE X (.Call (.Attribute o "pop" apos) [] [] cpos) (Te (kx X Tb) (E.chg U.pop m [])) :=
  pe_imp (pe_bm0 PySem.F.plainAttrs_list PySem.F.slot_list_pop PySem.F.type_list_pop mt_pop ho hbase hline) (bm0_go v_pop)
end
end
end Mi

set_option Elab.async false
set_option linter.all false
set_option maxRecDepth 100000
/-! Mi, part E: targets, what is walked, statements. -/
namespace Mi
open PySem PySem.Spec PyProof.Rows L2

/-! ### targets -/
def Tg (K : Kx) (g : G) : TG := fun v σ H Q => ∃ B F rho om z d, Rl K B F rho om z σ H ∧ Rp K F rho d v ∧ ∃ z', g.run d z = some z' ∧
  ∀ om' σ', (∀ j, ¬ j ∈ g.ws → om' j = om j ∧ σ'[j]? = σ[j]?) → σ'.length = σ.length → (∀ j a, om' j = some a → om j = some a) → Rl K B F rho om' z' σ' H → Q σ' H
def Tgs (K : Kx) (gs : List G) : TGs := fun vs σ H Q => ∃ B F rho om z ds, Rl K B F rho om z σ H ∧ Rps K F rho ds vs ∧ ∃ z', G.runs gs ds z = some z' ∧
  ∀ om' σ', (∀ j, ¬ j ∈ gs.flatMap G.ws → om' j = om j ∧ σ'[j]? = σ[j]?) → σ'.length = σ.length → (∀ j a, om' j = some a → om j = some a) → Rl K B F rho om' z' σ' H → Q σ' H
section
variable {X : Cx} {Tb : Tbs}
theorem mg_nm {i : Nat} {x : Str} {pos : Pos} (hN : X.N.Nodup) (hi : X.N[i]? = some x := by rfl) (hx : Loc X.env.scope x := by first | exact Or.inl rfl | exact Or.inr rfl)
    (hf : X.fn x = true ∨ X.env.scope.names.lookup x = some .local := by first | exact .inl rfl | exact .inr rfl) : PG X (.Name x pos) (Tg (kx X Tb) (G.nm i)) := by
  refine pg_imp (pg_name hN hi hx hf) fun v σ H Q ⟨B, F, rho, om, z, d, R, r, z', e, k⟩ => ?_
  cases e
  refine k (omSet om i none) _ (fun j hj => ?_) (by rw [List.length_set]) (fun j a h => (omSet_none h).2) (R.setVal i r)
  have hj : ¬ j = i := fun q => hj (by rw [q]; exact List.mem_singleton.mpr rfl)
  exact ⟨omSet_ne hj, List.getElem?_set_ne (Ne.symm hj)⟩
theorem mgs_nil : PGs X [] (Tgs (kx X Tb) []) := by
  refine pgs_imp pgs_nil fun vs σ H Q ⟨B, F, rho, om, z, ds, R, r, z', e, k⟩ => ?_
  cases r with
  | nil =>
    cases e
    exact ⟨rfl, k om σ (fun _ _ => ⟨rfl, rfl⟩) rfl (fun _ _ h => h) R⟩
  | cons _ _ => cases e
theorem mgs_cons {e : Expr} {es : List Expr} {g : G} {gs : List G} (h1 : PG X e (Tg (kx X Tb) g)) (h2 : PGs X es (Tgs (kx X Tb) gs)) (hs : (assignEach (e :: es) X.env).map (·.2) = assign e X.env :: (assignEach es X.env).map (·.2) := by rfl) : PGs X (e :: es) (Tgs (kx X Tb) (g :: gs)) := by
  refine pgs_imp (pgs_cons h1 h2 hs) fun vs σ H Q ⟨B, F, rho, om, z, ds, R, r, z', e, k⟩ => ?_
  cases r with
  | nil => cases e
  | @cons d v ds vs r q =>
    have e : (match g.run d z with | none => none | some z1 => G.runs gs ds z1) = some z' := e
    split at e
    · cases e
    · rename_i z1 h1
      refine ⟨v, vs, rfl, B, F, rho, om, z, d, R, r, z1, h1, fun om1 σ1 w1 l1 o1 R1 => ?_⟩
      refine ⟨B, F, rho, om1, z1, ds, R1, q, z', e, fun om2 σ2 w2 l2 o2 R2 => ?_⟩
      refine k om2 σ2 (fun j hj => ?_) (l2.trans l1) (fun j a h => o1 j a (o2 j a h)) R2
      rw [List.flatMap_cons, List.mem_append] at hj
      obtain ⟨a1, b1⟩ := w1 j fun q => hj (.inl q)
      obtain ⟨a2, b2⟩ := w2 j fun q => hj (.inr q)
      exact ⟨a2.trans a1, b2.trans b1⟩
theorem runs_len : ∀ {gs : List G} {ds : List D} {z z' : Z}, G.runs gs ds z = some z' → ds.length = gs.length
  | [], [], _, _, _ => rfl
  | [], _ :: _, _, _, h => by cases h
  | _ :: _, [], _, _, h => by cases h
  | g :: gs, d :: ds, z, z', h => by
    have e : (match g.run d z with | none => none | some z1 => G.runs gs ds z1) = some z' := h
    split at e
    · cases e
    · rw [List.length_cons, List.length_cons, runs_len e]
theorem mg_tp {es : List Expr} {k : Nat} {pos : Pos} {gs : List G} (hc : X.calm = true) (h : PGs X es (Tgs (kx X Tb) gs)) (hn : (assignEach es X.env).length = gs.length := by rfl) (hst : (assignEach es X.env).findIdx? (·.1) = none := by rfl) : PG X (.Tuple es k pos) (Tg (kx X Tb) (G.tp gs)) := by
  refine pg_imp (pg_tup hc h hn hst) fun v σ H Q ⟨B, F, rho, om, z, d, R, r, z', e, k⟩ => ?_
  cases r with
  | tup q r =>
    have hl := r.length
    have hl2 := runs_len (show G.runs gs _ z = some z' from e)
    exact ⟨_, _, rfl, SqT.of (R.rh.fro _ _ q), by omega, B, F, rho, om, z, _, R, r, z', e, k⟩
  | kt q r =>
    have hl := r.length
    have hl2 := runs_len (show G.runs gs _ z = some z' from e)
    exact ⟨_, _, rfl, Same.sqt R.rh.fro q, by omega, B, F, rho, om, z, _, R, r, z', e, k⟩
  | _ => cases e
theorem mg_tl {es : List Expr} {k : Nat} {pos : Pos} {gs : List G} (hc : X.calm = true) (h : PGs X es (Tgs (kx X Tb) gs)) (hn : (assignEach es X.env).length = gs.length := by rfl) (hst : (assignEach es X.env).findIdx? (·.1) = none := by rfl) : PG X (.Tuple es k pos) (Tg (kx X Tb) (G.tl gs)) := by
  refine pg_imp (pg_unl hc h hn hst) fun v σ H Q ⟨B, F, rho, om, z, d, R, r, z', e, k⟩ => ?_
  cases r with
  | lst q r =>
    have hl := r.length
    have hl2 := runs_len (show G.runs gs _ z = some z' from e)
    exact ⟨_, _, rfl, SqL.of (R.rh.fro _ _ q), by omega, B, F, rho, om, z, _, R, r, z', e, k⟩
  | _ => cases e
end

/-! ### what is walked -/
/-- the iterator gives the items, as long as what is walked stands as it is -/
def ItOk (K : Kx) (F : Hp) (rho : List Addr) (om : Nat → Option Addr) (it : It) (J : L2.It) : Prop :=
  ∀ B2 F2 rho2 om2 z2 σ2 H2, Same F F2 → rho <+: rho2 → Rl K B2 F2 rho2 om2 z2 σ2 H2 → (om2 = om ∨ ∀ j, it.chk ≠ some (.own j)) → it.ok z2 = true →
    (∀ i, it.items.length ≤ i → J.stop i H2) ∧ ∀ i d, it.items[i]? = some d → J.go i H2 ∧ ∀ x H3, J.yld i H2 x H3 → H3 = H2 ∧ ∃ F3, Same F2 F3 ∧ (∀ a o, H2 a = some o → NT o → F2 a = none → F3 a = none) ∧ Rl K B2 F3 rho2 om2 z2 σ2 H2 ∧ Rp K F3 rho2 d x
def Ti (K : Kx) (mi : M It) : TI := fun σ H R => ∃ B F rho om z, Rl K B F rho om z σ H ∧ ∃ it z', mi z = some (it, z') ∧
  ∀ F' rho' H' J, Same F F' → rho <+: rho' → Rl K B F' rho' om z' σ H' → ItOk K F' rho' om it J → R J H'
/-- no slot's own list is walked -/
def noOwn (mi : M It) : Prop := ∀ z it z' j, mi z = some (it, z') → it.chk ≠ some (.own j)
section
variable {X : Cx} {Tb : Tbs} {tg : Expr}
def iSeq (K : PySem.W.Frag) (tl : TE) : TI := fun σ H R => tl σ H fun x H1 => ∃ a, x = .ref a ∧ (((∃ xs, SqL K H1 a xs) ∧ R (Itl K a) H1) ∨ ((∃ xs, SqT K H1 a xs) ∧ R (Itt K a) H1))
theorem pi_seq {l : Expr} {tl : TE} (hl : PE X l tl) : PI X tg l (iSeq X.K tl) := by
  refine ⟨fun pins s σ H R I h => ?_⟩
  refine thn (hl.run pins s σ H _ I h) fun v s1 ⟨x, H1, I1, r1, q1⟩ => ?_
  obtain ⟨a, e, q⟩ := q1
  subst e
  cases r1
  rcases q with ⟨⟨xs, hq⟩, q⟩ | ⟨⟨xs, hq⟩, q⟩
  · obtain ⟨its, rv, p, hz⟩ := I1.list hq
    refine wpAny_pyIter_list p.isList ?_
    refine ⟨s1.heap.objs.size, [s1.heap.objs.size], _, _, H1, rfl, I1.kept (t' := s1.toks) fun b o e => Heap.get?_push_of_some _ e, turn_list a _, ⟨_, Heap.get?_push_size _ rfl, rfl, rfl⟩, fun b hb => ?_, q⟩
    have e : b = s1.heap.objs.size := by simpa using hb
    subst e
    exact I1.fpOk (Nat.le_refl _) (I1.hok.fresh (Nat.le_refl _))
  · obtain ⟨its, rv, p, hz⟩ := I1.tuple hq
    refine wpAny_pyIter_tuple (show s1.heap.IsTuple a its.toArray from p) ?_
    refine ⟨s1.heap.objs.size, [s1.heap.objs.size], _, _, H1, rfl, I1.kept (t' := s1.toks) fun b o e => Heap.get?_push_of_some _ e, turn_tuple a _, ⟨_, Heap.get?_push_size _ rfl, rfl, rfl⟩, fun b hb => ?_, q⟩
    have e : b = s1.heap.objs.size := by simpa using hb
    subst e
    exact I1.fpOk (Nat.le_refl _) (I1.hok.fresh (Nat.le_refl _))
/-- the iterator over a list at a -/
theorem itl_ok {K : Kx} {F : Hp} {rho : List Addr} {om : Nat → Option Addr} {it : It} {a : Addr}
    (h : ∀ B2 F2 rho2 om2 z2 σ2 H2, Same F F2 → rho <+: rho2 → Rl K B2 F2 rho2 om2 z2 σ2 H2 → (om2 = om ∨ ∀ j, it.chk ≠ some (.own j)) → it.ok z2 = true → ∃ xs, SqL K H2 a xs ∧ Rps K F2 rho2 it.items xs) : ItOk K F rho om it (Itl K a) := by
  intro B2 F2 rho2 om2 z2 σ2 H2 s p R ho hk
  obtain ⟨xs, hq, r⟩ := h B2 F2 rho2 om2 z2 σ2 H2 s p R ho hk
  refine ⟨fun i hi => ⟨xs, hq, by rw [← r.length]; exact hi⟩, fun i d hd => ?_⟩
  obtain ⟨v, hv, rv⟩ := r.get hd
  refine ⟨⟨xs, v, hq, hv⟩, fun x H3 ⟨e, y⟩ => ⟨e, F2, Same.refl _, fun _ _ _ _ n => n, R, ?_⟩⟩
  have q := y xs hq
  rw [hv] at q
  cases q
  exact rv
theorem itt_ok {K : Kx} {F : Hp} {rho : List Addr} {om : Nat → Option Addr} {it : It} {a : Addr}
    (h : ∀ B2 F2 rho2 om2 z2 σ2 H2, Same F F2 → rho <+: rho2 → Rl K B2 F2 rho2 om2 z2 σ2 H2 → (om2 = om ∨ ∀ j, it.chk ≠ some (.own j)) → it.ok z2 = true → ∃ xs, SqT K H2 a xs ∧ Rps K F2 rho2 it.items xs) : ItOk K F rho om it (Itt K a) := by
  intro B2 F2 rho2 om2 z2 σ2 H2 s p R ho hk
  obtain ⟨xs, hq, r⟩ := h B2 F2 rho2 om2 z2 σ2 H2 s p R ho hk
  refine ⟨fun i hi => ⟨xs, hq, by rw [← r.length]; exact hi⟩, fun i d hd => ?_⟩
  obtain ⟨v, hv, rv⟩ := r.get hd
  refine ⟨⟨xs, v, hq, hv⟩, fun x H3 ⟨e, y⟩ => ⟨e, F2, Same.refl _, fun _ _ _ _ n => n, R, ?_⟩⟩
  have q := y xs hq
  rw [hv] at q
  cases q
  exact rv
theorem it_ok {it : It} {z : Z} {d : D} (h : it.ok z = true) (hc : it.chk = some d) : ∃ b, cont d z = some (b, it.items) := by
  unfold It.ok at h
  rw [hc] at h
  dsimp only at h
  split at h
  · assumption
  · cases h
/-- the five ways to walk -/
theorem seq_at {K : Kx} {B : Bs} {F : Hp} {rho : List Addr} {om : Nat → Option Addr} {z z' : Z} {σ : L2.St} {H : Hp} {x : D} {v : V} {it : It} {R : L2.It → Hp → Prop} (Rr : Rl K B F rho om z σ H) (r : Rv K F rho om x v)
    (e : I.seqF x z = some (it, z')) (k : ∀ J, z' = z → ItOk K F rho om it J → R J H) : ∃ a, v = .ref a ∧ (((∃ xs, SqL K H a xs) ∧ R (Itl K a) H) ∨ ((∃ xs, SqT K H a xs) ∧ R (Itt K a) H)) := by
  cases r with
  | pure r =>
    cases r with
    | @lst a xs ds h q =>
      cases e
      exact ⟨a, rfl, .inl ⟨⟨xs, SqL.of (Rr.rh.fro _ _ h)⟩, k _ rfl (itl_ok fun B2 F2 rho2 om2 z2 σ2 H2 s p R2 _ _ => ⟨xs, SqL.of (R2.rh.fro _ _ (s _ _ h)), q.mono s p⟩)⟩⟩
    | @scr a xs ds h q =>
      cases e
      exact ⟨a, rfl, .inl ⟨⟨xs, Rr.rh.fro.seq h⟩, k _ rfl (itl_ok fun B2 F2 rho2 om2 z2 σ2 H2 s p R2 _ _ => ⟨xs, R2.rh.fro.seq (s.seq h), q.mono s p⟩)⟩⟩
    | @tup a xs ds h q =>
      cases e
      exact ⟨a, rfl, .inr ⟨⟨xs, SqT.of (Rr.rh.fro _ _ h)⟩, k _ rfl (itt_ok fun B2 F2 rho2 om2 z2 σ2 H2 s p R2 _ _ => ⟨xs, SqT.of (R2.rh.fro _ _ (s _ _ h)), q.mono s p⟩)⟩⟩
    | @kt a xs ds h q =>
      cases e
      exact ⟨a, rfl, .inr ⟨⟨xs, Same.sqt Rr.rh.fro h⟩, k _ rfl (itt_ok fun B2 F2 rho2 om2 z2 σ2 H2 s p R2 _ _ => ⟨xs, Same.sqt R2.rh.fro (Same.sqt s h), q.mono s p⟩)⟩⟩
    | @ref n a h =>
      unfold I.seqF at e
      dsimp only at e
      split at e
      · rename_i b xs hc
        cases e
        obtain ⟨a', ys, hv, q, h9⟩ := cont_ok Rr (.pure (.ref h)) hc
        cases hv
        rcases h9 with ⟨_, h9⟩ | ⟨hb, _⟩
        · refine ⟨a, rfl, .inl ⟨⟨ys, h9⟩, k _ rfl (itl_ok fun B2 F2 rho2 om2 z2 σ2 H2 s p R2 _ ok => ?_)⟩⟩
          obtain ⟨b2, hc2⟩ := it_ok ok rfl
          obtain ⟨a2, ys2, hv2, q2, h10⟩ := cont_ok R2 (.pure (.ref (pre_get p h))) hc2
          cases hv2
          rcases h10 with ⟨_, h10⟩ | ⟨hb, _⟩
          · exact ⟨ys2, h10, q2⟩
          · rw [hb] at hc2
            exact (cont_tup hc2).elim (fun z => nomatch z) fun z => nomatch z
        · rw [hb] at hc
          exact (cont_tup hc).elim (fun z => nomatch z) fun z => nomatch z
      · cases e
    | _ => cases e
  | @own i a h =>
    unfold I.seqF at e
    dsimp only at e
    split at e
    · rename_i b xs hc
      cases e
      obtain ⟨a', ys, hv, q, h9⟩ := cont_ok Rr (.own h) hc
      cases hv
      rcases h9 with ⟨_, h9⟩ | ⟨hb, _⟩
      · refine ⟨a, rfl, .inl ⟨⟨ys, h9⟩, k _ rfl (itl_ok fun B2 F2 rho2 om2 z2 σ2 H2 s p R2 ho ok => ?_)⟩⟩
        obtain ⟨b2, hc2⟩ := it_ok ok rfl
        have ho : om2 = om := by
          rcases ho with ho | ho
          · exact ho
          · exact absurd rfl (ho i)
        obtain ⟨a2, ys2, hv2, q2, h10⟩ := cont_ok R2 (.own (by rw [ho]; exact h)) hc2
        cases hv2
        rcases h10 with ⟨_, h10⟩ | ⟨hb, _⟩
        · exact ⟨ys2, h10, q2⟩
        · rw [hb] at hc2
          exact (cont_tup hc2).elim (fun z => nomatch z) fun z => nomatch z
      · rw [hb] at hc
        exact (cont_tup hc).elim (fun z => nomatch z) fun z => nomatch z
    · cases e
theorem mi_seqC {l : Expr} {m : M D} (hl : PE X l (Te (kx X Tb) m)) : PI X tg l (Ti (kx X Tb) (I.seqC m)) := by
  refine pi_imp (pi_seq hl) fun σ H R ⟨B, F, rho, om, z, Rr, it, z', e, k⟩ => ?_
  obtain ⟨x, z1, e1, e2⟩ := bnd_some e
  refine ⟨B, F, rho, om, z, Rr, x, z1, e1, fun F1 rho1 H1 v s1 p1 R1 r1 => ?_⟩
  exact seq_at R1 r1 e2 fun J ez ok => k F1 rho1 H1 J s1 p1 (by rw [ez]; exact R1) ok
theorem mi_seq {l : Expr} {m : M D} (hl : PE X l (Te (kx X Tb) m)) : PI X tg l (Ti (kx X Tb) (I.seq m)) := by
  refine pi_imp (mi_seqC hl) fun σ H R ⟨B, F, rho, om, z, Rr, it, z', e, k⟩ => ?_
  refine ⟨B, F, rho, om, z, Rr, it, z', ?_, k⟩
  obtain ⟨x, z1, e1, e2⟩ := bnd_some e
  unfold I.seqC bnd
  rw [e1]
  show I.seqF x z1 = some (it, z')
  cases x <;> first | exact e2 | cases e2
theorem seq_noOwn {m : M D} : noOwn (I.seq m) := by
  intro z it z' j h
  obtain ⟨x, z1, e1, e2⟩ := bnd_some h
  intro q
  cases x <;> try (cases e2; done)
  · cases e2; cases q
  · cases e2; cases q
  · cases e2; cases q
  · cases e2; cases q
  · dsimp only at e2
    split at e2
    · cases e2; cases q
    · cases e2
theorem irng_get {lo : Int} {n i : Nat} {d : D} (h : (I.irng lo n)[i]? = some d) : i < n ∧ d = .int (lo + (i : Nat)) := by
  unfold I.irng at h
  rw [List.getElem?_map] at h
  cases q : (List.range n)[i]? with
  | none => rw [q] at h; cases h
  | some j =>
    rw [q] at h
    cases h
    obtain ⟨h1, h2⟩ := List.getElem?_eq_some_iff.mp q
    rw [List.getElem_range] at h2
    subst h2
    exact ⟨by simpa using h1, rfl⟩
theorem irng_len {lo : Int} {n : Nat} : (I.irng lo n).length = n := by
  unfold I.irng
  rw [List.length_map, List.length_range]
theorem itr_ok {K : Kx} {F : Hp} {rho : List Addr} {om : Nat → Option Addr} {lo : Int} {n : Nat} : ItOk K F rho om ⟨I.irng lo n, none⟩ (Itr lo n) := by
  intro B2 F2 rho2 om2 z2 σ2 H2 s p R ho hk
  refine ⟨fun i hi => ?_, fun i d hd => ?_⟩
  · rw [irng_len] at hi
    exact hi
  · obtain ⟨h1, rfl⟩ := irng_get hd
    refine ⟨h1, fun x H3 ⟨e, y⟩ => ⟨e, F2, Same.refl _, fun _ _ _ _ n => n, R, ?_⟩⟩
    rw [y]
    exact .int _
theorem mi_rng1 {a : Expr} {m : M D} {p pos : Pos} (hg : Gl X "range") (hm : X.mg "range" = none) (ha : PE X a (Te (kx X Tb) m)) (hs : starEach [a] X.env = [(false, eval a X.env)] := by rfl) (he : starEach [a] X.env = (false, eval a X.env) :: starEach [] X.env := by rfl) : PI X tg (.Call (.Name "range" p) [a] [] pos) (Ti (kx X Tb) (I.rng1 m)) := by
  refine pi_imp (pi_range1 hg hm (pa_cons ha pa_nil he) hs) fun σ H R ⟨B, F, rho, om, z, Rr, it, z', e, k⟩ => ?_
  obtain ⟨x, z1, e1, e2⟩ := bnd_some e
  refine ⟨B, F, rho, om, z, Rr, x, z1, e1, fun F1 rho1 H1 v s1 p1 R1 r1 => ?_⟩
  cases x <;> try (cases e2; done)
  obtain rfl := rv_int r1
  dsimp only at e2
  split at e2
  · rename_i n hn
    cases e2
    exact ⟨_, rfl, hn.1, hn.2, k F1 rho1 H1 _ s1 p1 R1 itr_ok⟩
  · cases e2
theorem mi_rng2 {a b : Expr} {m n : M D} {p pos : Pos} (hg : Gl X "range") (hm : X.mg "range" = none) (ha : PE X a (Te (kx X Tb) m)) (hb : PE X b (Te (kx X Tb) n)) (hs : starEach [a, b] X.env = [(false, eval a X.env), (false, eval b X.env)] := by rfl) (hs2 : starEach [b] X.env = [(false, eval b X.env)] := by rfl)
    (he : starEach [a, b] X.env = (false, eval a X.env) :: starEach [b] X.env := by rfl) (he2 : starEach [b] X.env = (false, eval b X.env) :: starEach [] X.env := by rfl) : PI X tg (.Call (.Name "range" p) [a, b] [] pos) (Ti (kx X Tb) (I.rng2 m n)) := by
  refine pi_imp (pi_range2 hg hm (pa_cons ha (pa_cons hb pa_nil he2) he) hs hs2) fun σ H R ⟨B, F, rho, om, z, Rr, it, z', e, k⟩ => ?_
  obtain ⟨x, z1, e1, e2⟩ := bnd_some e
  refine ⟨B, F, rho, om, z, Rr, x, z1, e1, fun F1 rho1 H1 v s1 p1 R1 r1 => ?_⟩
  obtain ⟨y, z2, e3, e4⟩ := bnd_some e2
  refine ⟨B, F1, rho1, om, z1, R1, y, z2, e3, fun F2 rho2 H2 w s2 p2 R2 r2 => ?_⟩
  cases x <;> try (cases e4; done)
  cases y <;> try (cases e4; done)
  obtain rfl := rv_int r1
  obtain rfl := rv_int r2
  dsimp only at e4
  split at e4
  · rename_i i j hn
    cases e4
    exact ⟨_, _, rfl, ⟨hn.1.1, hn.1.2, hn.2.1, hn.2.2⟩, k F2 rho2 H2 _ (s1.trans s2) (p1.trans p2) R2 itr_ok⟩
  · cases e4
theorem rng1_noOwn {m : M D} : noOwn (I.rng1 m) := by
  intro z it z' j h
  obtain ⟨x, z1, e1, e2⟩ := bnd_some h
  intro q
  cases x <;> try (cases e2; done)
  dsimp only at e2
  split at e2
  · cases e2; cases q
  · cases e2
theorem rng2_noOwn {m n : M D} : noOwn (I.rng2 m n) := by
  intro z it z' j h
  obtain ⟨x, z1, e1, e2⟩ := bnd_some h
  obtain ⟨y, z2, e3, e4⟩ := bnd_some e2
  intro q
  cases x <;> try (cases e4; done)
  cases y <;> try (cases e4; done)
  dsimp only at e4
  split at e4
  · cases e4; cases q
  · cases e4
end
end Mi

set_option Elab.async false
set_option linter.all false
set_option maxRecDepth 100000
/-! Mi, part F: statements. -/
namespace Mi
open PySem PySem.Spec PyProof.Rows L2

def Post (K : Kx) (B : Bs) (F : Hp) (rho : List Addr) (D : Ends) (z' : Z) : Fl → Prop
  | .nx => ∀ F' rho' om' σ' H', Same F F' → rho <+: rho' → Rl K B F' rho' om' z' σ' H' → D.nx σ' H'
  | .bk => ∀ F' rho' om' σ' H', Same F F' → rho <+: rho' → Rl K B F' rho' om' z' σ' H' → D.bk σ' H'
  | .ct => ∀ F' rho' om' σ' H', Same F F' → rho <+: rho' → Rl K B F' rho' om' z' σ' H' → D.ct σ' H'
  | .rt d => ∀ F' rho' om' σ' H' v, Same F F' → rho <+: rho' → Rl K B F' rho' om' z' σ' H' → Rp K F' rho' d v → D.rt v H'
def GoS (K : Kx) (B : Bs) (F : Hp) (rho : List Addr) (om : Nat → Option Addr) (c : C) (z : Z) (D : Ends) (σ : L2.St) (H : Hp) : Prop :=
  Rl K B F rho om z σ H ∧ ∃ f z', c z = some (f, z') ∧ Post K B F rho D z' f
def Ts (K : Kx) (c : C) : TS := fun D σ H => ∃ B F rho om z, GoS K B F rho om c z D σ H
theorem Post.mono {K : Kx} {B : Bs} {F F1 : Hp} {rho rho1 : List Addr} {D : Ends} {z' : Z} {f : Fl} (s : Same F F1) (p : rho <+: rho1) (h : Post K B F rho D z' f) : Post K B F1 rho1 D z' f := by
  cases f with
  | nx => exact fun F' rho' om' σ' H' s' p' R => h F' rho' om' σ' H' (s.trans s') (p.trans p') R
  | bk => exact fun F' rho' om' σ' H' s' p' R => h F' rho' om' σ' H' (s.trans s') (p.trans p') R
  | ct => exact fun F' rho' om' σ' H' s' p' R => h F' rho' om' σ' H' (s.trans s') (p.trans p') R
  | rt d => exact fun F' rho' om' σ' H' v s' p' R => h F' rho' om' σ' H' v (s.trans s') (p.trans p') R
section
variable {X : Cx} {Tb : Tbs}
/-! ### blocks -/
theorem mss_nil : PSs X [] (Ts (kx X Tb) C.skip) := by
  refine pss_imp pss_nil fun D σ H ⟨B, F, rho, om, z, R, f, z', e, k⟩ => ?_
  cases e
  exact k F rho om σ H (Same.refl _) (List.prefix_refl _) R
theorem seq_go {K : Kx} {a b : C} {D : Ends} {σ : L2.St} {H : Hp} (h : Ts K (C.seq a b) D σ H) : Ts K a { D with nx := Ts K b D } σ H := by
  obtain ⟨B, F, rho, om, z, R, f, z', e, k⟩ := h
  unfold C.seq at e
  split at e
  · rename_i z1 h1
    refine ⟨B, F, rho, om, z, R, .nx, z1, h1, fun F' rho' om' σ' H' s p R' => ⟨B, F', rho', om', z1, R', f, z', e, k.mono s p⟩⟩
  · rename_i hn
    refine ⟨B, F, rho, om, z, R, f, z', e, ?_⟩
    cases f with
    | nx => exact absurd e (hn z')
    | _ => exact k
theorem mss_cons {st : Stmt} {rest : List Stmt} {a b : C} (h1 : PS X st (Ts (kx X Tb) a)) (h2 : PSs X rest (Ts (kx X Tb) b)) : PSs X (st :: rest) (Ts (kx X Tb) (C.seq a b)) := pss_imp (pss_cons h1 h2) fun D σ H h => seq_go h
theorem mss_one {st : Stmt} {a : C} (h1 : PS X st (Ts (kx X Tb) a)) : PSs X [st] (Ts (kx X Tb) a) := pss_one h1
/-- a slot's list is laid down, ahead of a statement -/
theorem mss_frz {rest : List Stmt} {b : C} (i : Nat) (h : PSs X rest (Ts (kx X Tb) b)) : PSs X rest (Ts (kx X Tb) (C.seq (C.frz i) b)) := by
  refine pss_imp h fun D σ H ⟨B, F, rho, om, z, R, f, z', e, k⟩ => ?_
  unfold C.seq C.frz at e
  cases hs : z.s[i]? with
  | none =>
    rw [hs] at e
    cases e
  | some x =>
    cases x with
    | own d =>
      cases d with
      | lst ds =>
        rw [hs] at e
        have e : b ⟨z.s.set i (.val (.lst ds)), z.h⟩ = some (f, z') := e
        obtain ⟨a, h1, h2, xs, h3, h4⟩ := R.sl i _ hs
        have f0 := R.freshOwn h1
        have R1 : Rl (kx X Tb) B F rho (omSet om i none) ⟨z.s.set i .no, z.h⟩ σ H := R.forget i
        obtain ⟨R2, s2⟩ := R1.lay f0 h3
        have hσ : σ.set i (some (V.ref a)) = σ := by
          refine List.ext_getElem? fun j => ?_
          by_cases c : j = i
          · subst c
            rw [h2, List.getElem?_set_self (List.getElem?_eq_some_iff.mp h2).1]
          · rw [List.getElem?_set_ne (Ne.symm c)]
        have R3 := R2.setVal i (.lst upd_same (h4.mono s2 (List.prefix_refl _)))
        rw [hσ] at R3
        have ez : (⟨(z.s.set i Sl.no).set i (.val (.lst ds)), z.h⟩ : Z) = ⟨z.s.set i (.val (.lst ds)), z.h⟩ := by rw [List.set_set]
        have R3 : Rl (kx X Tb) B _ rho (omSet (omSet om i none) i none) ⟨(z.s.set i Sl.no).set i (.val (.lst ds)), z.h⟩ σ H := R3
        rw [ez] at R3
        exact ⟨B, _, rho, _, _, R3, f, z', e, k.mono s2 (List.prefix_refl _)⟩
      | _ =>
        rw [hs] at e
        cases e
    | _ =>
      rw [hs] at e
      cases e
/-! ### small statements -/
theorem ms_pass {pos : Pos} : PS X (.Pass pos) (Ts (kx X Tb) C.skip) := by
  refine ps_imp ps_pass fun D σ H ⟨B, F, rho, om, z, R, f, z', e, k⟩ => ?_
  cases e
  exact k F rho om σ H (Same.refl _) (List.prefix_refl _) R
theorem ms_brk {pos : Pos} : PS X (.Break pos) (Ts (kx X Tb) C.brk) := by
  refine ps_imp ps_break fun D σ H ⟨B, F, rho, om, z, R, f, z', e, k⟩ => ?_
  cases e
  exact k F rho om σ H (Same.refl _) (List.prefix_refl _) R
theorem ms_cnt {pos : Pos} : PS X (.Continue pos) (Ts (kx X Tb) C.cnt) := by
  refine ps_imp ps_continue fun D σ H ⟨B, F, rho, om, z, R, f, z', e, k⟩ => ?_
  cases e
  exact k F rho om σ H (Same.refl _) (List.prefix_refl _) R
theorem ms_expr {e : Expr} {m : M D} {pos : Pos} (he : PE X e (Te (kx X Tb) m)) (hs : swapsWith e none pos.line X.env = pure false := by rfl) : PS X (.Expr e pos) (Ts (kx X Tb) (C.drop m)) := by
  refine ps_imp (ps_expr he hs) fun D σ H ⟨B, F, rho, om, z, R, f, z', e, k⟩ => ?_
  obtain ⟨x, z1, e1, e2⟩ := bnd_some e
  cases e2
  exact ⟨B, F, rho, om, z, R, x, _, e1, fun F1 rho1 H1 v s p R1 r1 => k F1 rho1 om σ H1 s p R1⟩
theorem ms_ret {e : Expr} {m : M D} {pos : Pos} (he : PE X e (Te (kx X Tb) m)) : PS X (.Return (some e) pos) (Ts (kx X Tb) (C.ret m)) := by
  refine ps_imp (ps_ret he) fun D σ H ⟨B, F, rho, om, z, R, f, z', e, k⟩ => ?_
  obtain ⟨x, z1, e1, e2⟩ := bnd_some e
  refine ⟨B, F, rho, om, z, R, x, z1, e1, fun F1 rho1 H1 v s p R1 r1 => ?_⟩
  cases r1 with
  | pure r1 =>
    have e2 : some (Fl.rt x, z1) = some (f, z') := by
      cases x <;> first | exact e2 | (cases r1; done)
    cases e2
    exact k F1 rho1 om σ H1 v s p R1 r1
  | @own i a h =>
    try dsimp only at e2
    split at e2
    · rename_i ds hs
      cases e2
      obtain ⟨a', h1, h2, h5⟩ := R1.sl i _ hs
      rw [h] at h1
      cases h1
      obtain ⟨xs, h3, h4⟩ := h5
      have f0 := R1.freshOwn h
      obtain ⟨R2, s2⟩ := (R1.forget i).lay f0 h3
      have r3 : Rp (kx X Tb) (upd F1 a (.lst xs)) rho1 (.lst ds) (.ref a) := .lst upd_same (h4.mono s2 (List.prefix_refl _))
      exact k _ rho1 _ σ H1 _ (s.trans s2) p R2 r3
    · cases e2
/-- a slot's own list goes to the shared heap -/
theorem ms_retS {e : Expr} {m : M D} {pos : Pos} (he : PE X e (Te (kx X Tb) m)) : PS X (.Return (some e) pos) (Ts (kx X Tb) (C.retS m)) := by
  refine ps_imp (ps_ret he) fun D σ H ⟨B, F, rho, om, z, R, f, z', e, k⟩ => ?_
  obtain ⟨x, z1, e1, e2⟩ := bnd_some e
  refine ⟨B, F, rho, om, z, R, x, z1, e1, fun F1 rho1 H1 v s p R1 r1 => ?_⟩
  cases r1 with
  | pure r1 => cases x <;> first | (cases e2; done) | (cases r1; done)
  | @own i a h =>
    dsimp only at e2
    split at e2
    · rename_i ds hs
      cases e2
      obtain ⟨a', h1, h2, h5⟩ := R1.sl i _ hs
      rw [h] at h1
      cases h1
      have f0 := R1.freshOwn h
      obtain ⟨R2, q2⟩ := (R1.forget i).share (d := .lst ds) f0 h5
      exact k F1 _ _ σ H1 _ s (p.trans (List.prefix_append _ _)) R2 (.ref q2)
    · cases e2
theorem ms_retN {pos : Pos} : PS X (.Return none pos) (Ts (kx X Tb) C.retN) := by
  refine ps_imp ps_retN fun D σ H ⟨B, F, rho, om, z, R, f, z', e, k⟩ => ?_
  cases e
  exact k F rho om σ H .non (Same.refl _) (List.prefix_refl _) R .non
theorem ms_if {c : Expr} {a b : List Stmt} {t : M Bool} {ca cb : C} {pos : Pos} (hc : PT X c (Tt (kx X Tb) t)) (ha : PSs X a (Ts (kx X Tb) ca)) (hb : PSs X b (Ts (kx X Tb) cb)) : PS X (.If c a b pos) (Ts (kx X Tb) (C.ite t ca cb)) := by
  refine ps_imp (ps_if hc ha hb) fun D σ H ⟨B, F, rho, om, z, R, f, z', e, k⟩ => ?_
  obtain ⟨x, z1, e1, e2⟩ := bnd_some e
  refine ⟨B, F, rho, om, z, R, x, z1, e1, fun F1 rho1 H1 v s p R1 r1 => ?_⟩
  have r1 : v = x := r1
  subst r1
  cases v with
  | true => exact ⟨B, F1, rho1, om, z1, R1, f, z', e2, k.mono s p⟩
  | false => exact ⟨B, F1, rho1, om, z1, R1, f, z', e2, k.mono s p⟩
/-- name = e -/
theorem ms_set {i : Nat} {x : Str} {e : Expr} {m : M D} {pos pos' : Pos} (hN : X.N.Nodup) (he : PE X e (Te (kx X Tb) m)) (hi : X.N[i]? = some x := by rfl) (hx : Loc X.env.scope x := by first | exact Or.inl rfl | exact Or.inr rfl)
    (hs : swapsWith e (some (.Name x pos')) pos.line X.env = pure false := by rfl) (hf : X.fn x = true ∨ X.env.scope.names.lookup x = some .local := by first | exact .inl rfl | exact .inr rfl) : PS X (.Assign [.Name x pos'] e pos) (Ts (kx X Tb) (C.set i m)) := by
  refine ps_imp (ps_set hN hi hx he hs hf) fun D σ H ⟨B, F, rho, om, z, R, f, z', e, k⟩ => ?_
  obtain ⟨d, z1, e1, e2⟩ := bnd_some e
  refine ⟨B, F, rho, om, z, R, d, z1, e1, fun F1 rho1 H1 v s p R1 r1 => ?_⟩
  try dsimp only at e2
  split at e2
  · rename_i hp
    cases e2
    exact k F1 rho1 _ _ H1 s p (R1.setVal i (r1.of_pure hp))
  · cases e2
/-- name = a new list that the name owns -/
theorem own_go {K : Kx} {i : Nat} {m : M (List D)} {te : TE} (h : ∀ σ H Q, Tf K m σ H Q → te σ H Q) : ∀ D σ H, Ts K (C.own i m) D σ H → tAsg te (gName i) D σ H := by
  rintro D σ H ⟨B, F, rho, om, z, R, f, z', e, k⟩
  obtain ⟨ds, z1, e1, e2⟩ := bnd_some e
  refine h σ H _ ⟨B, F, rho, om, z, R, ds, z1, e1, fun F1 rho1 H1 v s p R1 ⟨a, xs, hv, ha, f0, r1⟩ => ?_⟩
  subst hv
  try dsimp only at e2
  split at e2
  · rename_i hl
    cases e2
    exact k F1 rho1 _ _ H1 s p (R1.setOwn i hl f0 ⟨xs, ha, r1⟩)
  · cases e2
theorem ms_own {i : Nat} {x : Str} {e : Expr} {m : M (List D)} {pos pos' : Pos} (hN : X.N.Nodup) (he : PE X e (Tf (kx X Tb) m)) (hi : X.N[i]? = some x := by rfl) (hx : Loc X.env.scope x := by first | exact Or.inl rfl | exact Or.inr rfl)
    (hs : swapsWith e (some (.Name x pos')) pos.line X.env = pure false := by rfl) (hf : X.fn x = true ∨ X.env.scope.names.lookup x = some .local := by first | exact .inl rfl | exact .inr rfl) : PS X (.Assign [.Name x pos'] e pos) (Ts (kx X Tb) (C.own i m)) :=
  ps_imp (ps_set hN hi hx he hs hf) (own_go fun _ _ _ h => h)
/-- a target = e -/
theorem asg_go {K : Kx} {g : G} {m : M D} {te : TE} (h : ∀ σ H Q, Te K m σ H Q → te σ H Q) : ∀ D σ H, Ts K (C.asg g m) D σ H → tAsg te (Tg K g) D σ H := by
  rintro D σ H ⟨B, F, rho, om, z, R, f, z', e, k⟩
  obtain ⟨d, z1, e1, e2⟩ := bnd_some e
  refine h σ H _ ⟨B, F, rho, om, z, R, d, z1, e1, fun F1 rho1 H1 v s p R1 r1 => ?_⟩
  try dsimp only at e2
  split at e2
  · rename_i hp
    split at e2
    · rename_i z2 hg
      cases e2
      exact ⟨B, F1, rho1, om, z1, d, R1, r1.of_pure hp, z', hg, fun om' σ' _ _ _ R2 => k F1 rho1 om' σ' H1 s p R2⟩
    · cases e2
  · cases e2
theorem ms_asg {tg e : Expr} {m : M D} {g : G} {pos : Pos} (he : PE X e (Te (kx X Tb) m)) (hg : PG X tg (Tg (kx X Tb) g)) (hs : swapsWithSole [tg] e pos.line X.env = pure false := by rfl) (hw : swappedStores [tg] e X.env = pure none := by rfl)
    (h1 : (assignEach [tg] X.env).map (·.2) = [assign tg X.env] := by rfl) : PS X (.Assign [tg] e pos) (Ts (kx X Tb) (C.asg g m)) := ps_imp (ps_asg he hg hs hw h1) (asg_go fun _ _ _ h => h)
/-- x op= e -/
def IpM (X : Cx) (op : Operator) (f : D → D → Z → Option D) : Prop := ∃ r : TIp, PIp X op r ∧ ∀ {Tb : Tbs} {B : Bs} {F : Hp} {rho : List Addr} {om : Nat → Option Addr} {z : Z} {σ : L2.St} {H : Hp} {x y : D} {xv yv : V} {d : D}, Rl (kx X Tb) B F rho om z σ H → Rp (kx X Tb) F rho x xv → Rv (kx X Tb) F rho om y yv → f x y z = some d →
    ∀ Q : VK, (∀ v, Rp (kx X Tb) F rho d v → Q v H) → r xv yv H Q
theorem ms_aug {i : Nat} {x : Str} {e : Expr} {m : M D} {op : Operator} {f : D → D → Z → Option D} {pos pos' : Pos} (hN : X.N.Nodup) (ho : IpM X op f) (he : PE X e (Te (kx X Tb) m)) (hi : X.N[i]? = some x := by rfl) (hx : Loc X.env.scope x := by first | exact Or.inl rfl | exact Or.inr rfl)
    (hf : X.fn x = true ∨ X.env.scope.names.lookup x = some .local := by first | exact .inl rfl | exact .inr rfl) : PS X (.AugAssign (.Name x pos') op e pos) (Ts (kx X Tb) (C.aug i f m)) := by
  obtain ⟨r, h1, h2⟩ := ho
  refine ps_imp (ps_aug hN hi hx he h1 hf) fun D σ H ⟨B, F, rho, om, z, R, f, z', e, k⟩ => ?_
  unfold C.aug at e
  split at e
  · rename_i x hx
    obtain ⟨xv, q1, q2⟩ := R.sl i _ hx
    obtain ⟨y, z1, e1, e2⟩ := bnd_some e
    refine ⟨xv, q1, B, F, rho, om, z, R, y, z1, e1, fun F1 rho1 H1 v s p R1 r1 => ?_⟩
    try dsimp only at e2
    split at e2
    · rename_i d hd
      split at e2
      · cases e2
        exact h2 R1 (q2.mono s p) r1 hd _ fun w q => k F1 rho1 _ _ H1 s p (R1.setVal i q)
      · cases e2
    · cases e2
  · cases e
theorem ip_two {K : Kx} {F : Hp} {rho : List Addr} {om : Nat → Option Addr} {z : Z} {x y : D} {xv yv : V} {d : D} {g : Int → Int → Int} {f : D → D → Z → Option D}
    (hf : ∀ x y z, f x y z = match x, y with | .int i, .int j => some (.int (g i j)) | _, _ => none) (rx : Rp K F rho x xv) (ry : Rv K F rho om y yv) (e : f x y z = some d) : ∃ i j, xv = .int i ∧ yv = .int j ∧ d = .int (g i j) := by
  obtain ⟨i, j, rfl, rfl, rfl, rfl, e⟩ := two_ints (g := fun i j => some (.int (g i j))) hf (.pure rx : Rv K F rho om x xv) ry e
  cases e
  exact ⟨i, j, rfl, rfl, rfl⟩
theorem i_add : IpM X .Add O.add := by
  refine ⟨_, ip_add, ?_⟩
  intro Tb B F rho om z σ H x y xv yv d R rx ry e Q k
  obtain ⟨i, j, rfl, rfl, rfl⟩ := ip_two (g := fun i j => i + j) (fun x y z => by cases x <;> cases y <;> rfl) rx ry e
  exact ⟨i, j, rfl, rfl, k _ (.int _)⟩
theorem i_sub : IpM X .Sub O.sub := by
  refine ⟨_, ip_sub, ?_⟩
  intro Tb B F rho om z σ H x y xv yv d R rx ry e Q k
  obtain ⟨i, j, rfl, rfl, rfl⟩ := ip_two (g := fun i j => i - j) (fun x y z => by cases x <;> cases y <;> rfl) rx ry e
  exact ⟨i, j, rfl, rfl, k _ (.int _)⟩
/-- a[i] = e -/
theorem ms_setIx {a i e : Expr} {ma mi me : M D} {p pos : Pos} (he : PE X e (Te (kx X Tb) me)) (ha : PE X a (Te (kx X Tb) ma)) (hi : PE X i (Te (kx X Tb) mi)) (hs : swapsWithSole [.Subscript a i p] e pos.line X.env = pure false := by rfl) (hw : swappedStores [.Subscript a i p] e X.env = pure none := by rfl)
    (h1 : (assignEach [.Subscript a i p] X.env).map (·.2) = [assign (.Subscript a i p) X.env] := by rfl) (hsub : ∀ v, assign (.Subscript a i p) X.env v = (do
      let ov ← holding [v] (eval a X.env)
      let iv ← holding [v, ov] (eval i X.env)
      standAt p
      holding [v, ov, iv] (setItem ov iv v)
      release [v, ov, iv] []) := by intro _; rfl) : PS X (.Assign [.Subscript a i p] e pos) (Ts (kx X Tb) (C.setIx ma mi me)) := by
  refine ps_imp (ps_asg he (pg_sub ha hi set_list hsub) hs hw h1) fun D σ H ⟨B, F, rho, om, z, R, f, z', e, k⟩ => ?_
  obtain ⟨d, z1, e1, e2⟩ := bnd_some e
  refine ⟨B, F, rho, om, z, R, d, z1, e1, fun F1 rho1 H1 v s1 p1 R1 r1 => ?_⟩
  obtain ⟨x, z2, e3, e4⟩ := bnd_some e2
  refine ⟨B, F1, rho1, om, z1, R1, x, z2, e3, fun F2 rho2 H2 w s2 p2 R2 r2 => ?_⟩
  obtain ⟨y, z3, e5, e6⟩ := bnd_some e4
  refine ⟨B, F2, rho2, om, z2, R2, y, z3, e5, fun F3 rho3 H3 u s3 p3 R3 r3 => ?_⟩
  try dsimp only at e6
  split at e6
  · rename_i hp
    have rd : Rp (kx X Tb) F3 rho3 d v := ((r1.of_pure hp).mono s2 p2).mono s3 p3
    have r2' := r2.mono s3 p3
    have fin : ∀ {ds ds' : List Mi.D} {xs : List V} {j : Int}, U.setAt ds j d = some ds' → Rps (kx X Tb) F3 rho3 ds xs → ∃ jj, ixN xs.length j = some jj ∧ Rps (kx X Tb) F3 rho3 ds' (xs.set jj v) := fun {ds ds' xs j} h q => by
      unfold U.setAt at h
      cases hj : ixN ds.length j with
      | none => rw [hj] at h; cases h
      | some jj =>
        rw [hj] at h
        cases h
        exact ⟨jj, by rw [← q.length]; exact hj, q.set rd jj⟩
    split at e6
    · rename_i kk j
      obtain rfl := rv_int r3
      cases r2' with
      | pure r2' => cases r2'
      | own h =>
        split at e6
        · rename_i ds hs
          split at e6
          · rename_i ds' hd
            cases e6
            obtain ⟨a', h1, h5, h2⟩ := R3.sl _ _ hs
            rw [h] at h1
            cases h1
            obtain ⟨ys, h3, h4⟩ := h2
            obtain ⟨jj, hj, q⟩ := fin hd h4
            exact ⟨_, ys, j, jj, rfl, rfl, h3, hj, k F3 rho3 _ _ _ ((s1.trans s2).trans s3) ((p1.trans p2).trans p3) (R3.mutOwn h hs ⟨_, upd_same, q⟩)⟩
          · cases e6
        · cases e6
    · rename_i n j
      obtain rfl := rv_int r3
      cases r2' with
      | pure r2' =>
        cases r2' with
        | ref h =>
          split at e6
          · rename_i ds hs
            split at e6
            · rename_i ds' hd
              cases e6
              obtain ⟨ys, h3, h4⟩ := R3.rh.obs n _ _ hs h
              obtain ⟨jj, hj, q⟩ := fin hd h4
              exact ⟨_, ys, j, jj, rfl, rfl, h3, hj, k F3 rho3 _ _ _ ((s1.trans s2).trans s3) ((p1.trans p2).trans p3) (R3.mutRef h ⟨_, upd_same, q⟩)⟩
            · cases e6
          · cases e6
    · cases e6
  · cases e6

/-! ### loops -/
theorem ms_for {tg iter : Expr} {body : List Stmt} {mi : M It} {g : G} {b : C} {pos : Pos} (hp : PassesOwn (model X.prog X.w) X.A X.env X.xe) (hc : X.calm = true) (hi : PI X tg iter (Ti (kx X Tb) mi)) (hn : noOwn mi) (hg : PG X tg (Tg (kx X Tb) g)) (hb : PSs X body (Ts (kx X Tb) b))
    (hs : ∀ x, foldedSetIterable iter X.env x = pure x := by intro _; rfl) : PS X (.For tg iter body [] pos) (Ts (kx X Tb) (C.for_ mi g b)) := by
  refine ps_imp (ps_for hp hc hi hg hb hs) fun D σ H ⟨B, F, rho, om, z, R, f, z', e, k⟩ => ?_
  obtain ⟨it, z1, e1, e2⟩ := bnd_some e
  refine ⟨B, F, rho, om, z, R, it, z1, e1, fun F1 rho1 H1 J s1 p1 R1 ok => ?_⟩
  have hno := fun j => hn z it z1 j e1
  have k1 := k.mono s1 p1
  refine ⟨fun i m σ H => ∃ F2 rho2 om2 z2, Same F1 F2 ∧ rho1 <+: rho2 ∧ Rl (kx X Tb) B F2 rho2 om2 z2 σ H ∧ m = it.items.length - i ∧ i ≤ it.items.length ∧ C.loop it g b (it.items.drop i) z2 = some (f, z'),
    ⟨_, F1, rho1, om, z1, Same.refl _, List.prefix_refl _, R1, rfl, Nat.zero_le _, e2⟩, ?_⟩
  rintro i m σ2 H2 ⟨F2, rho2, om2, z2, s2, p2, R2, rfl, hi, hl⟩
  cases hd : it.items.drop i with
  | nil =>
    rw [hd] at hl
    have hl : (if it.ok z2 = true then some (Fl.nx, z2) else none) = some (f, z') := hl
    split at hl
    · rename_i hok
      cases hl
      have hi2 : it.items.length ≤ i := by
        have := List.drop_eq_nil_iff.mp hd
        exact this
      obtain ⟨o1, o2⟩ := ok B F2 rho2 om2 _ σ2 H2 s2 p2 R2 (.inr hno) hok
      exact .inl ⟨o1 i hi2, k1 F2 rho2 om2 σ2 H2 s2 p2 R2⟩
    · cases hl
  | cons d ds =>
    rw [hd] at hl
    have hds : it.items.drop (i + 1) = ds := by rw [← List.drop_drop, hd]; rfl
    have hget : it.items[i]? = some d := by
      have := List.getElem?_drop (xs := it.items) (i := i) (j := 0)
      rw [hd] at this
      simpa using this.symm
    have hlt : i < it.items.length := (List.getElem?_eq_some_iff.mp hget).1
    unfold C.loop at hl
    split at hl
    · rename_i hok
      obtain ⟨o1, o2⟩ := ok B F2 rho2 om2 z2 σ2 H2 s2 p2 R2 (.inr hno) hok
      obtain ⟨g1, y1⟩ := o2 i d hget
      split at hl
      · cases hl
      · rename_i z3 hg3
        cases hb4 : b z3 with
        | none =>
          rw [hb4] at hl
          cases hl
        | some q4 =>
          obtain ⟨f4, z4⟩ := q4
          rw [hb4] at hl
          refine .inr ⟨g1, fun σ' H' => ∃ F' rho' om', Same F2 F' ∧ rho2 <+: rho' ∧ Rl (kx X Tb) B F' rho' om' z4 σ' H' ∧ C.loop it g b ds z4 = some (f, z'), ?_, fun x H3 hy => ?_⟩
          · rintro σ' H' ⟨F', rho', om', s', p', R', hl'⟩
            exact ⟨it.items.length - (i + 1), by omega, F', rho', om', z4, s2.trans s', p2.trans p', R', rfl, hlt, by rw [hds]; exact hl'⟩
          · obtain ⟨rfl, F3, s23, _, R23, rx⟩ := y1 x H3 hy
            refine ⟨B, F3, rho2, om2, z2, d, R23, rx, z3, hg3, fun om3 σ3 _ _ _ R3 => ⟨B, F3, rho2, om3, z3, R3, f4, z4, hb4, ?_⟩⟩
            cases f4 with
            | nx => exact fun F' rho' om' σ' H' s' p' R' => ⟨F', rho', om', s23.trans s', p', R', hl⟩
            | ct => exact fun F' rho' om' σ' H' s' p' R' => ⟨F', rho', om', s23.trans s', p', R', hl⟩
            | bk =>
              cases hl
              exact fun F' rho' om' σ' H' s' p' R' => k1 F' rho' om' σ' H' (s2.trans (s23.trans s')) (p2.trans p') R'
            | rt d4 =>
              cases hl
              exact fun F' rho' om' σ' H' v s' p' R' r => k1 F' rho' om' σ' H' v (s2.trans (s23.trans s')) (p2.trans p') R' r
    · cases hl
/-- so many turns -/
def whlF (t : M Bool) (b : C) : Nat → C
  | 0, _ => none
  | n + 1, z => match t z with
    | none => none
    | some (false, z1) => some (.nx, z1)
    | some (true, z1) => match b z1 with
      | none => none
      | some (.nx, z2) => whlF t b n z2
      | some (.ct, z2) => whlF t b n z2
      | some (.bk, z2) => some (.nx, z2)
      | some (.rt d, z2) => some (.rt d, z2)
theorem whl_F {t : M Bool} {b : C} : ∀ z r, C.whl t b z = some r → ∃ n, whlF t b n z = some r := by
  refine C.whl.partial_correctness t b _ fun w ih z r h => ?_
  split at h
  · cases h
  · rename_i z1 ht
    refine ⟨1, ?_⟩
    unfold whlF
    rw [ht]
    exact h
  · rename_i z1 ht
    split at h
    · cases h
    · rename_i z2 hb
      obtain ⟨n, hn⟩ := ih _ _ h
      refine ⟨n + 1, ?_⟩
      unfold whlF
      rw [ht]
      dsimp only
      rw [hb]
      exact hn
    · rename_i z2 hb
      obtain ⟨n, hn⟩ := ih _ _ h
      refine ⟨n + 1, ?_⟩
      unfold whlF
      rw [ht]
      dsimp only
      rw [hb]
      exact hn
    · rename_i z2 hb
      refine ⟨1, ?_⟩
      unfold whlF
      rw [ht]
      dsimp only
      rw [hb]
      exact h
    · rename_i d z2 hb
      refine ⟨1, ?_⟩
      unfold whlF
      rw [ht]
      dsimp only
      rw [hb]
      exact h
theorem ms_whl {c : Expr} {body : List Stmt} {t : M Bool} {b : C} {pos : Pos} (hp : PassesOwn (model X.prog X.w) X.A X.env X.xe) (hc : PT X c (Tt (kx X Tb) t)) (hb : PSs X body (Ts (kx X Tb) b)) : PS X (.While c body [] pos) (Ts (kx X Tb) (C.whl t b)) := by
  refine ps_imp (ps_while hp hc hb) fun D σ H ⟨B, F, rho, om, z, R, f, z', e, k⟩ => ?_
  obtain ⟨n, hn⟩ := whl_F _ _ e
  refine ⟨fun m σ H => ∃ F2 rho2 om2 z2, Same F F2 ∧ rho <+: rho2 ∧ Rl (kx X Tb) B F2 rho2 om2 z2 σ H ∧ whlF t b m z2 = some (f, z'), ⟨n, F, rho, om, z, Same.refl _, List.prefix_refl _, R, hn⟩, ?_⟩
  rintro m σ2 H2 ⟨F2, rho2, om2, z2, s2, p2, R2, hl⟩
  cases m with
  | zero => cases hl
  | succ m =>
    unfold whlF at hl
    cases ht : t z2 with
    | none =>
      rw [ht] at hl
      cases hl
    | some q =>
      obtain ⟨k3, z3⟩ := q
      rw [ht] at hl
      refine ⟨B, F2, rho2, om2, z2, R2, k3, z3, ht, fun F3 rho3 H3 y s3 p3 R3 r3 => ?_⟩
      have r3 : y = k3 := r3
      subst r3
      cases y with
      | false =>
        cases hl
        exact k F3 rho3 _ _ _ (s2.trans s3) (p2.trans p3) R3
      | true =>
        dsimp only at hl
        cases hb4 : b z3 with
        | none =>
          rw [hb4] at hl
          cases hl
        | some q4 =>
          obtain ⟨f4, z4⟩ := q4
          rw [hb4] at hl
          refine ⟨fun σ' H' => ∃ F' rho' om', Same F3 F' ∧ rho3 <+: rho' ∧ Rl (kx X Tb) B F' rho' om' z4 σ' H' ∧ whlF t b m z4 = some (f, z'), ?_, B, F3, rho3, om2, z3, R3, f4, z4, hb4, ?_⟩
          · rintro σ' H' ⟨F', rho', om', s', p', R', hl'⟩
            exact ⟨m, Nat.lt_succ_self m, F', rho', om', z4, (s2.trans s3).trans s', (p2.trans p3).trans p', R', hl'⟩
          · cases f4 with
            | nx => exact fun F' rho' om' σ' H' s' p' R' => ⟨F', rho', om', s', p', R', hl⟩
            | ct => exact fun F' rho' om' σ' H' s' p' R' => ⟨F', rho', om', s', p', R', hl⟩
            | bk =>
              cases hl
              exact fun F' rho' om' σ' H' s' p' R' => k F' rho' om' σ' H' ((s2.trans s3).trans s') ((p2.trans p3).trans p') R'
            | rt d4 =>
              cases hl
              exact fun F' rho' om' σ' H' v s' p' R' r => k F' rho' om' σ' H' v ((s2.trans s3).trans s') ((p2.trans p3).trans p') R' r
end
end Mi

set_option Elab.async false
set_option linter.all false
set_option maxRecDepth 100000
/-! Mi, part G: comprehensions; a def by its body. -/
namespace Mi
open PySem PySem.Spec PyProof.Rows L2

section
variable {K : Kx} {B : Bs} {F F' : Hp} {rho rho' : List Addr} {om om' : Nat → Option Addr} {z z' : Z} {σ σ' : L2.St} {H H' : Hp} {a p : Addr} {d : D} {v : V} {o : HO}
/-- an object of nobody's is changed -/
theorem Rl.mutFresh (R : Rl K B F rho om z σ H) (f : Fresh K B F rho om H p) (hn : NT o := by exact fun _ e => nomatch e) : Rl K B F rho om z σ (upd H p o) ∧ Fresh K B F rho om (upd H p o) p := by
  have nr : ∀ (n : Nat) a, rho[n]? = some a → a ≠ p := fun n a e q => f.r n (by rw [← q]; exact e)
  have no : ∀ (i : Nat) a, om i = some a → a ≠ p := fun i a e q => f.o i (by rw [← q]; exact e)
  refine ⟨⟨R.rh.mono1 (fun _ _ e => e) (Same.upd_out R.rh.fro f.f) (fun n a e => upd_ne (nr n a e)) R.rh.nf (R.rh.tb.mono (fun _ _ e => e) (fun q hq => upd_ne (f.k q hq)) R.rh.tb.nf), R.len, fun i x e => (R.sl i x e).mono (fun _ _ e => e) (List.prefix_refl _) (fun a e => upd_ne (no i a e)) rfl, R.oj, R.orr, R.off,
    fun i a e => by rw [upd_ne (no i a e)]; exact R.oth i a e, fun a u e m => ?_, R.exf, R.exr, R.nF, R.nr, R.no, R.ow, R.to, R.mt⟩, ⟨f.f, f.r, f.o, f.b, ⟨_, upd_same, hn⟩, f.k⟩⟩
  have c : a ≠ p := fun c => by
    subst c
    rcases f.b with h | h
    · exact m h
    · rw [h] at e
      cases e
  rw [upd_ne c]
  exact R.frm a u e m
theorem Rl.wipe1 (R : Rl K B F rho om z σ H) {i : Nat} (h : om i = none) : Rl K B F rho om ⟨z.s.set i .no, z.h⟩ (σ.set i none) H := by
  refine ⟨R.rh, by simp only [List.length_set]; exact R.len, fun j x e => ?_, R.oj, R.orr, R.off, R.oth, R.frm, R.exf, R.exr, R.nF, R.nr, R.no, fun j a e => ?_, R.to, R.mt⟩
  · have e : (z.s.set i .no)[j]? = some x := e
    by_cases c : j = i
    · subst c
      have hl : j < z.s.length := by
        have := (List.getElem?_eq_some_iff.mp e).1
        simpa using this
      rw [List.getElem?_set_self hl] at e
      cases e
      trivial
    · rw [List.getElem?_set_ne (Ne.symm c)] at e
      rw [List.getElem?_set_ne (Ne.symm c)]
      exact R.sl j x e
  · have c : ¬ j = i := fun c => by
      subst c
      rw [h] at e
      cases e
    obtain ⟨d', q⟩ := R.ow j a e
    exact ⟨d', by rw [← q]; exact List.getElem?_set_ne (Ne.symm c)⟩
theorem Rl.wipe (R : Rl K B F rho om z σ H) : ∀ {vs : List Nat}, (∀ v ∈ vs, om v = none) → Rl K B F rho om ⟨N.wipe z.s vs, z.h⟩ (L2.wipe σ vs) H
  | [], _ => R
  | v :: vs, h => (Rl.wipe R (vs := vs) fun w hw => h w (List.mem_cons_of_mem _ hw)).wipe1 (h v List.mem_cons_self)
end
theorem wipe_eq {σ σ2 : L2.St} {vs : List Nat} (hl : σ2.length = σ.length) (h : ∀ j, ¬ j ∈ vs → σ2[j]? = σ[j]?) : L2.wipe σ2 vs = L2.wipe σ vs := by
  have inn : ∀ {τ : L2.St} {vs : List Nat} {j : Nat}, j ∈ vs → j < τ.length → (L2.wipe τ vs)[j]? = some none := by
    intro τ vs
    induction vs with
    | nil => intro j h; cases h
    | cons v vs ih =>
      intro j h hj
      unfold L2.wipe
      by_cases c : v = j
      · subst c
        exact List.getElem?_set_self (by rw [wipe_length]; exact hj)
      · rw [List.getElem?_set_ne c]
        rcases List.mem_cons.mp h with q | q
        · exact absurd q.symm c
        · exact ih q hj
  refine List.ext_getElem? fun j => ?_
  by_cases c : j ∈ vs
  · by_cases hj : j < σ.length
    · rw [inn c hj, inn c (by rw [hl]; exact hj)]
    · rw [List.getElem?_eq_none (by rw [wipe_length]; omega), List.getElem?_eq_none (by rw [wipe_length]; omega)]
  · rw [wipe_out c, wipe_out c]
    exact h j c
theorem rest_out {s0 s : List Sl} : ∀ {vs : List Nat} {j : Nat}, ¬ j ∈ vs → (N.rest s0 s vs)[j]? = s[j]?
  | [], _, _ => rfl
  | v :: vs, j, h => by
    unfold N.rest
    have ih := rest_out (s0 := s0) (s := s) (vs := vs) (j := j) fun q => h (List.mem_cons_of_mem _ q)
    cases s0[v]? with
    | none => exact ih
    | some x =>
      have c : v ≠ j := fun c => h (by rw [c]; exact List.mem_cons_self)
      dsimp only
      rw [List.getElem?_set_ne c]
      exact ih
theorem rest_len {s0 s : List Sl} : ∀ {vs : List Nat}, (N.rest s0 s vs).length = s.length
  | [] => rfl
  | v :: vs => by
    unfold N.rest
    cases s0[v]? with
    | none => exact rest_len
    | some x =>
      dsimp only
      rw [List.length_set]
      exact rest_len
theorem rest_in {s0 s : List Sl} (hl : s0.length = s.length) : ∀ {vs : List Nat} {j : Nat}, j ∈ vs → (N.rest s0 s vs)[j]? = s0[j]?
  | [], _, h => by cases h
  | v :: vs, j, h => by
    unfold N.rest
    by_cases c : v = j
    · subst c
      cases q : s0[v]? with
      | none =>
        dsimp only
        have h1 : s0.length ≤ v := List.getElem?_eq_none_iff.mp q
        exact List.getElem?_eq_none (by rw [rest_len]; omega)
      | some x =>
        have h1 := (List.getElem?_eq_some_iff.mp q).1
        exact List.getElem?_set_self (by rw [rest_len]; omega)
    · have hj : j ∈ vs := by
        rcases List.mem_cons.mp h with q | q
        · exact absurd q.symm c
        · exact q
      cases q : s0[v]? with
      | none => exact rest_in hl hj
      | some x =>
        dsimp only
        rw [List.getElem?_set_ne c]
        exact rest_in hl hj
section
variable {K : Kx} {B : Bs} {F F' : Hp} {rho rho' : List Addr} {om om' : Nat → Option Addr} {z z' : Z} {σ σ' : L2.St} {H H' : Hp}
/-- behind a comprehension the names are what they were -/
theorem Rl.rest {H1 : Hp} {F1 : Hp} {rho1 : List Addr} {z1 : Z} {vs : List Nat} (R1 : Rl K B F1 rho1 om z1 σ H1) (s : Same F1 F) (p : rho1 <+: rho) (R : Rl K B F rho om z (L2.wipe σ vs) H) (hn : ∀ v ∈ vs, om v = none) : Rl K B F rho om ⟨N.rest z1.s z.s vs, z.h⟩ σ H := by
  have hl : z1.s.length = z.s.length := by rw [R1.len, R.len, wipe_length]
  refine ⟨R.rh, by rw [rest_len, ← hl]; exact R1.len, fun j x e => ?_, R.oj, R.orr, R.off, R.oth, R.frm, R.exf, R.exr, R.nF, R.nr, R.no, fun j a e => ?_, R.to, R.mt⟩
  · have e : (N.rest z1.s z.s vs)[j]? = some x := e
    by_cases c : j ∈ vs
    · rw [rest_in hl c] at e
      have q := R1.sl j x e
      cases x with
      | no => trivial
      | val d =>
        obtain ⟨v, h1, h2⟩ := q
        exact ⟨v, h1, h2.mono s p⟩
      | own d =>
        obtain ⟨a, h1, _⟩ := q
        rw [hn j c] at h1
        cases h1
    · rw [rest_out c] at e
      have q := R.sl j x e
      rw [wipe_out c] at q
      exact q
  · have c : ¬ j ∈ vs := fun c => by
      rw [hn j c] at e
      cases e
    obtain ⟨d', q⟩ := R.ow j a e
    exact ⟨d', by rw [← q]; exact rest_out c⟩
end
theorem szl_line : szl ≤ sizeLine := by decide
theorem lc_go {K : Kx} {mi : M It} {g : G} {vs : List Nat} {tt : M Bool} {te : M D} (hw : ∀ w ∈ g.ws, w ∈ vs) : ∀ σ H Q, Tf K (N.comp mi g vs tt te) σ H Q → tLc (Ti K mi) (Tg K g) (Tt K tt) (Te K te) vs σ H Q := by
  rintro σ H Q ⟨B, F, rho, om, z, R, xs, z', e, k⟩
  obtain ⟨it, z1, e1, e2⟩ := bnd_some e
  refine ⟨B, F, rho, om, z, R, it, z1, e1, fun F1 rho1 H1 J s1 p1 R1 ok D hD => ?_⟩
  try dsimp only at e2
  split at e2
  · rename_i hc
    split at e2
    · cases e2
    · rename_i accF zF hloop
      cases e2
      have hn : ∀ v ∈ vs, om v = none := fun v hv => by
        cases q : om v with
        | none => rfl
        | some a =>
          obtain ⟨d, hd⟩ := R1.ow v a q
          have := List.all_eq_true.mp hc.2 v hv
          rw [hd] at this
          cases this
      obtain ⟨R2, f2⟩ := R1.new (o := .lst []) hD
      refine ⟨fun i m H => ∃ F2 rho2 z2 acc accv, Same F1 F2 ∧ rho1 <+: rho2 ∧ Rl K B F2 rho2 om z2 (L2.wipe σ vs) H ∧ Fresh K B F2 rho2 om H D ∧ H D = some (.lst accv) ∧ Rps K F2 rho2 acc accv ∧ m = it.items.length - i ∧ i ≤ it.items.length ∧ acc.length ≤ i ∧ N.loop it g vs tt te (it.items.drop i) acc z2 = some (xs, zF),
        ⟨_, F1, rho1, _, [], [], Same.refl _, List.prefix_refl _, R2.wipe hn, f2, upd_same, .nil, rfl, Nat.zero_le _, Nat.le_refl _, hloop⟩, ?_⟩
      rintro i m H2 ⟨F2, rho2, z2, acc, accv, s2, p2, R2, f2, hD2, ra, rfl, hi, hal, hl⟩
      cases hd : it.items.drop i with
      | nil =>
        rw [hd] at hl
        have hl : (if it.ok z2 = true then some (acc, z2) else none) = some (xs, zF) := hl
        split at hl
        · rename_i hok
          cases hl
          have hi2 : it.items.length ≤ i := List.drop_eq_nil_iff.mp hd
          obtain ⟨o1, o2⟩ := ok B F2 rho2 om _ _ H2 s2 p2 R2 (.inl rfl) hok
          exact .inl ⟨o1 i hi2, k F2 rho2 H2 _ (s1.trans s2) (p1.trans p2) (R1.rest s2 p2 R2 hn) ⟨D, accv, rfl, hD2, f2, ra⟩⟩
        · cases hl
      | cons d ds =>
        rw [hd] at hl
        have hds : it.items.drop (i + 1) = ds := by rw [← List.drop_drop, hd]; rfl
        have hget : it.items[i]? = some d := by
          have := List.getElem?_drop (xs := it.items) (i := i) (j := 0)
          rw [hd] at this
          simpa using this.symm
        have hlt : i < it.items.length := (List.getElem?_eq_some_iff.mp hget).1
        unfold N.loop at hl
        split at hl
        · rename_i hok
          obtain ⟨o1, o2⟩ := ok B F2 rho2 om z2 _ H2 s2 p2 R2 (.inl rfl) hok
          obtain ⟨g1, y1⟩ := o2 i d hget
          split at hl
          · cases hl
          · rename_i zg hg3
            cases ht : tt zg with
            | none =>
              rw [ht] at hl
              cases hl
            | some q4 =>
              obtain ⟨b4, zt⟩ := q4
              rw [ht] at hl
              refine .inr ⟨g1, fun H' => ∃ F3 rho3 z3 acc3 accv3, Same F2 F3 ∧ rho2 <+: rho3 ∧ Rl K B F3 rho3 om z3 (L2.wipe σ vs) H' ∧ Fresh K B F3 rho3 om H' D ∧ H' D = some (.lst accv3) ∧ Rps K F3 rho3 acc3 accv3 ∧ acc3.length ≤ i + 1 ∧ N.loop it g vs tt te ds acc3 z3 = some (xs, zF), ?_, fun x H3 hy => ?_⟩
              · rintro H' ⟨F3, rho3, z3, acc3, accv3, s3, p3, R3, f3, hD3, ra3, hl3, hll⟩
                exact ⟨it.items.length - (i + 1), by omega, F3, rho3, z3, acc3, accv3, s2.trans s3, p2.trans p3, R3, f3, hD3, ra3, rfl, hlt, hl3, by rw [hds]; exact hll⟩
              · obtain ⟨rfl, F2a, s2a, n2a, R2a, rx⟩ := y1 x H3 hy
                have ra := ra.mono s2a (List.prefix_refl _)
                have f2 : Fresh K B F2a rho2 om _ D := ⟨n2a _ _ hD2 (fun _ e => nomatch e) f2.f, f2.r, f2.o, f2.b, f2.t, f2.k⟩
                refine ⟨B, F2a, rho2, om, z2, d, R2a, rx, zg, hg3, fun om' σ' hw' hl' hom Rg => ?_⟩
                have eom : om' = om := by
                  funext j
                  by_cases c : j ∈ g.ws
                  · rw [hn j (hw j c)]
                    cases q : om' j with
                    | none => rfl
                    | some a =>
                      have := hom j a q
                      rw [hn j (hw j c)] at this
                      cases this
                  · exact (hw' j c).1
                subst eom
                have ew : L2.wipe σ' vs = L2.wipe σ vs := by
                  refine wipe_eq (hl'.trans (wipe_length _ _)) fun j c => ?_
                  rw [(hw' j fun q => c (hw j q)).2, wipe_out c]
                refine ⟨ew, _, F2a, rho2, om', zg, Rg.reb, b4, zt, ht, fun F3 rho3 H3 y s3 p3 R3 r3 => ?_⟩
                have r3 : y = b4 := r3
                subst r3
                obtain ⟨f3, hD3⟩ := f2.through R3 fun i h => h
                rw [hD2] at hD3
                have R3b := Rg.back R3
                cases y with
                | true =>
                  refine iteT ?_
                  dsimp only at hl
                  cases hte : te zt with
                  | none =>
                    rw [hte] at hl
                    cases hl
                  | some q5 =>
                    obtain ⟨x5, z5⟩ := q5
                    rw [hte] at hl
                    dsimp only at hl
                    split at hl
                    · rename_i hp5
                      refine ⟨_, F3, rho3, om', zt, R3b.reb, x5, z5, hte, fun F4 rho4 H4 w s4 p4 R4 r4 => ?_⟩
                      obtain ⟨f4, hD4⟩ := f3.through R4 fun i h => h
                      rw [hD3] at hD4
                      have R4b := R3b.back R4
                      have hzl : accv.length < sizeLine := by
                        rw [← ra.length]
                        exact Nat.lt_of_lt_of_le (Nat.lt_of_le_of_lt hal (Nat.lt_of_lt_of_le hlt hc.1)) szl_line
                      refine ⟨accv, hD4, hzl, ?_⟩
                      obtain ⟨R5, f5⟩ := R4b.mutFresh (o := .lst (accv ++ [w])) f4
                      have R6 := R5.wipe hn
                      rw [ew] at R6
                      exact ⟨F4, rho4, _, acc ++ [x5], accv ++ [w], s2a.trans (s3.trans s4), p3.trans p4, R6, f5, upd_same, ((ra.mono s3 p3).mono s4 p4).append (.one (r4.of_pure hp5)), by rw [List.length_append, List.length_singleton]; omega, hl⟩
                    · cases hl
                | false =>
                  refine iteF ?_
                  have R6 := R3b.wipe hn
                  rw [ew] at R6
                  exact ⟨F3, rho3, _, acc, accv, s2a.trans s3, p3, R6, f3, hD3, ra.mono s3 p3, by omega, hl⟩
        · cases hl
  · cases e2
theorem frz_go {K : Kx} {m : M (List D)} : ∀ σ H Q, Te K (E.frz m) σ H Q → Tf K m σ H Q := by
  rintro σ H Q ⟨B, F, rho, om, z, g⟩
  refine (g.bnd.imp fun _ _ H1 _ _ v _ _ _ _ _ ⟨F2, rho2, z2, xs, eg1, s1, p1, ⟨p, vs, hv, hp, f, r1⟩, g1⟩ => ?_).tx (R := rF K)
  subst hv
  obtain ⟨R, d, z4, e, k⟩ := g1
  cases e
  obtain ⟨R3, s3⟩ := R.lay f hp
  exact k _ rho2 _ _ s3 (List.prefix_refl _) R3 (.pure (.lst upd_same (r1.mono s3 (List.prefix_refl _))))
theorem set_go {K : Kx} {i : Nat} {m : M D} {te : TE} (h : ∀ σ H Q, Te K m σ H Q → te σ H Q) : ∀ D σ H, Ts K (C.set i m) D σ H → tAsg te (gName i) D σ H := by
  rintro D σ H ⟨B, F, rho, om, z, R, f, z', e, k⟩
  obtain ⟨d, z1, e1, e2⟩ := bnd_some e
  refine h σ H _ ⟨B, F, rho, om, z, R, d, z1, e1, fun F1 rho1 H1 v s p R1 r1 => ?_⟩
  try dsimp only at e2
  split at e2
  · rename_i hp
    cases e2
    exact k F1 rho1 _ _ H1 s p (R1.setVal i (r1.of_pure hp))
  · cases e2
theorem mts_nil {X : Cx} : PTs X [] (Tt (kx X Tb) (ret true)) := pts_imp pts_nil fun σ H Q ⟨B, F, rho, om, z, g⟩ => g.ret true rfl
theorem mts_one {X : Cx} {c : Expr} {t : M Bool} (h : PT X c (Tt (kx X Tb) t)) : PTs X [c] (Tt (kx X Tb) t) := pts_one h
section
variable {X : Cx} {Tb : Tbs} {elt tg iter : Expr} {ifs : List Expr} {scope : Scope} {own : List (Str × Nat)} {pos : Pos} {mi : M It} {g : G} {tt : M Bool} {te : M D}
theorem mf_lc (vs : List Nat) (hc : X.calm = true) (hN : X.N.Nodup) (hi : PI X tg iter (Ti (kx X Tb) mi)) (ok : BlkOk X.N X.env.scope scope own) (hv : own.map (·.2) = vs)
    (hg : ∀ (s : Shared) (H : Hp) (C : Addr) (cl : List (Str × Addr)) (fp : List Addr), PG (X.blk s H scope (compEnvC scope cl C X.env) fp) tg (Tg (kx X Tb) g)) (ht : ∀ (s : Shared) (H : Hp) (C : Addr) (cl : List (Str × Addr)) (fp : List Addr), PTs (X.blk s H scope (compEnvC scope cl C X.env) fp) ifs (Tt (kx X Tb) tt))
    (he : ∀ (s : Shared) (H : Hp) (C : Addr) (cl : List (Str × Addr)) (fp : List Addr), PE (X.blk s H scope (compEnvC scope cl C X.env) fp) elt (Te (kx X Tb) te)) (hw : ∀ w ∈ g.ws, w ∈ vs) (hs : ∀ x, foldedSetIterable iter X.env x = pure x := by intro _; rfl) :
    PE X (.ListComp elt [⟨tg, iter, ifs, 0⟩] scope pos) (Tf (kx X Tb) (N.comp mi g vs tt te)) := by
  subst hv
  exact pe_imp (pe_lc hc hN hi ok hg ht he hs) (lc_go hw)
/-- name = [..], the name a local: the name owns the list; the list is laid down -/
theorem ms_ownLc {i : Nat} {y : Str} {py spos : Pos} (vs : List Nat) (hc : X.calm = true) (hN : X.N.Nodup) (hy : X.N[i]? = some y) (hyl : X.env.scope.names.lookup y = some .local)
    (hsw : swapsWith (.ListComp elt [⟨tg, iter, ifs, 0⟩] scope pos) (some (.Name y py)) spos.line X.env = pure true) (hi : PI X tg iter (Ti (kx X Tb) mi)) (ok : BlkOk X.N X.env.scope scope own) (hv : own.map (·.2) = vs)
    (hg : ∀ (s : Shared) (H : Hp) (C : Addr) (cl : List (Str × Addr)) (fp : List Addr), PG (X.blk s H scope (compEnvC scope cl C X.env) fp) tg (Tg (kx X Tb) g)) (ht : ∀ (s : Shared) (H : Hp) (C : Addr) (cl : List (Str × Addr)) (fp : List Addr), PTs (X.blk s H scope (compEnvC scope cl C X.env) fp) ifs (Tt (kx X Tb) tt))
    (he : ∀ (s : Shared) (H : Hp) (C : Addr) (cl : List (Str × Addr)) (fp : List Addr), PE (X.blk s H scope (compEnvC scope cl C X.env) fp) elt (Te (kx X Tb) te)) (hw : ∀ w ∈ g.ws, w ∈ vs) (hs : ∀ x, foldedSetIterable iter X.env x = pure x := by intro _; rfl) :
    PS X (.Assign [.Name y py] (.ListComp elt [⟨tg, iter, ifs, 0⟩] scope pos) spos) (Ts (kx X Tb) (C.own i (N.comp mi g vs tt te))) := by
  subst hv
  exact ps_imp (ps_setLc hc hN hy hyl hsw hi ok hg ht he hs) (own_go (lc_go hw))
theorem ms_frzLc {i : Nat} {y : Str} {py spos : Pos} (vs : List Nat) (hc : X.calm = true) (hN : X.N.Nodup) (hy : X.N[i]? = some y) (hyl : X.env.scope.names.lookup y = some .local)
    (hsw : swapsWith (.ListComp elt [⟨tg, iter, ifs, 0⟩] scope pos) (some (.Name y py)) spos.line X.env = pure true) (hi : PI X tg iter (Ti (kx X Tb) mi)) (ok : BlkOk X.N X.env.scope scope own) (hv : own.map (·.2) = vs)
    (hg : ∀ (s : Shared) (H : Hp) (C : Addr) (cl : List (Str × Addr)) (fp : List Addr), PG (X.blk s H scope (compEnvC scope cl C X.env) fp) tg (Tg (kx X Tb) g)) (ht : ∀ (s : Shared) (H : Hp) (C : Addr) (cl : List (Str × Addr)) (fp : List Addr), PTs (X.blk s H scope (compEnvC scope cl C X.env) fp) ifs (Tt (kx X Tb) tt))
    (he : ∀ (s : Shared) (H : Hp) (C : Addr) (cl : List (Str × Addr)) (fp : List Addr), PE (X.blk s H scope (compEnvC scope cl C X.env) fp) elt (Te (kx X Tb) te)) (hw : ∀ w ∈ g.ws, w ∈ vs) (hs : ∀ x, foldedSetIterable iter X.env x = pure x := by intro _; rfl) :
    PS X (.Assign [.Name y py] (.ListComp elt [⟨tg, iter, ifs, 0⟩] scope pos) spos) (Ts (kx X Tb) (C.set i (E.frz (N.comp mi g vs tt te)))) := by
  subst hv
  exact ps_imp (ps_setLc hc hN hy hyl hsw hi ok hg ht he hs) (set_go fun σ H Q h => lc_go hw σ H Q (frz_go σ H Q h))
end

/-! ### a def by its body -/
theorem fn_body {K : Kx} {sc : Scope} {N ps : List Str} {b : C} {vs : List V} {H : Hp} {Q : VK} {E : XK} (S : FnScope N ps sc) (h : spM ps.length K (fn N.length ps.length b) vs H Q E) : Ts K b { nx := fun _ H' => Q .non H', rt := Q } (start N vs) H := by
  obtain ⟨hl, F0, rho, h0, ds, rh, rp, d, h', e, kk⟩ := h
  have hN : ps.length ≤ N.length := by
    have := congrArg List.length S.pre
    rw [List.length_take] at this
    omega
  have R0 := Rl.begin (N := N) rh rp (by omega)
  unfold fn at e
  split at e
  · cases hb2 : b ⟨slots N.length ds, h0⟩ with
    | none =>
      rw [hb2] at e
      cases e
    | some q =>
      obtain ⟨f1, z1⟩ := q
      rw [hb2] at e
      refine ⟨_, F0, rho, _, _, R0, f1, z1, hb2, ?_⟩
      have fin : ∀ {F' rho' om' σ' H' d v}, Rl K ⟨H, F0, rho, fun a => (∃ n : Nat, rho[n]? = some a) ∨ ∃ p ∈ K.tb.t, p.1 = a⟩ F' rho' om' z1 σ' H' → Rp K F' rho' d v → some (d, z1.h) = some ((d : D), h') → (∀ (F' : Hp) (rho' : List Addr) (H' : Hp) (v : V), Same F0 F' → rho <+: rho' → Rh K F' rho' h' H' → (∀ a o, H a = some o → (∀ n : Nat, ¬ rho[n]? = some a) → (∀ p ∈ K.tb.t, ¬ p.1 = a) → H' a = some o) →
          (∀ a o, H a = some o → NT o → F0 a = none → (∀ n : Nat, ¬ rho[n]? = some a) → F' a = none) → (∀ (n : Nat) a, rho'[n]? = some a → (∃ m : Nat, rho[m]? = some a) ∨ H a = none) → Rp K F' rho' d v → Q v H') → Q v H' := by
        intro F' rho' om' σ' H' d v R' r e kk
        cases e
        exact kk F' rho' H' v R'.exf R'.exr R'.rh (fun a o h1 h2 h3 => R'.frm a o h1 fun q => q.elim (fun ⟨n, q⟩ => h2 n q) fun ⟨p, hp, q⟩ => h3 p hp q) (fun a o h1 nt h2 h3 => by
            by_cases c : ∃ p ∈ K.tb.t, p.1 = a
            · obtain ⟨p, hp, rfl⟩ := c
              exact R'.rh.tb.nf p hp
            · exact R'.nF a o h1 nt h2 fun q => q.elim (fun ⟨n, q⟩ => h3 n q) c) (fun n a q => by
            rcases R'.nr n a q with (h | ⟨p, hp, rfl⟩) | h
            · exact .inl h
            · exact absurd q (R'.rh.tr p hp n)
            · exact .inr h) r
      cases f1 with
      | nx =>
        cases e
        exact fun F' rho' om' σ' H' s p R' => fin R' .non rfl kk
      | rt d' =>
        cases e
        exact fun F' rho' om' σ' H' v s p R' r => fin R' r rfl kk
      | bk => cases e
      | ct => cases e
  · cases e
theorem fn_ok {P : Program} {w : World} {K : Kx} {mg : Str → Option Value} {base : Heap} {x qual : Str} {st : Stmt} {f : Addr} {fd : FuncData} {N ps : List Str} {k n kk : Nat} {b : C} (F : Fun K x qual st f fd) (S : FnScope N ps (defScope st)) (hn : N.length = n) (hk : ps.length = kk)
    (hb : ∀ (cdv : Value) (A : Around) (outer : List Env) (s : Shared) (H : Hp) (E : XK), Room k (A.deeper (envOfC qual (defScope st) s.heap.objs.size f cdv)) → PSs (cxOf CX0 P w K mg base N qual (defScope st) f cdv A outer s H E).nox (defBody st) (Ts K b)) :
    FnOk P w K mg base CX0 (k + 1) f fd ps (spM kk K (fn n kk b)) := by
  subst hn hk
  refine F.ok S (fun vs H Q E h => h.1) fun cdv A outer s H vs Q E hr h => ⟨_, hb cdv A outer s H E hr, ?_⟩
  exact fn_body S h
end Mi

set_option Elab.async false
set_option linter.all false
set_option maxRecDepth 100000
/-! Mi, part H: the end of a law's row. -/
namespace Mi
open PySem PySem.Spec PyProof.Rows L2

theorem start_rh {K : PySem.W.Frag} {H : Hp} : Rh ⟨K, ⟨[], []⟩⟩ H [] [] H := ⟨Same.refl H, rfl, (fun _ _ _ h => by simp at h), (fun _ _ _ h => by simp at h), (fun _ _ h => by simp at h), ⟨(fun _ h => nomatch h), (fun _ h => nomatch h), fun _ h => nomatch h⟩, fun _ h => nomatch h⟩
theorem walk {l : PySem.W.OpenLaw} {k : Nat} {q : Program} {loose : List Str} {XP : (Str → Option Value) → Heap → Prop} {YP : World → Heap → Prop} {d : DefRec} {K : Params → PySem.W.Frag} {x : Str} {mf : Fn} (hn : l.most = some 63) (hdf : d.params.defaults = []) (hr : Room k callerA)
    (hY : ∀ (w : World) (h : Heap), YP w h → (K w.params).In h)
    (F : ∀ (w : World) (mg : Str → Option Value) (fa : Addr) (h : Heap), (K w.params).In h → h.Ns mainGlobals mg → mg d.name = some (.ref fa) →
      ∃ fd : FuncData, (∀ (s : Shared) (u : Value), BindsTo s fd ⟨[u], []⟩ [(x, u)]) ∧ ∀ base : Heap, (K w.params).In base → base.Ns mainGlobals mg → FnOk l.prog w (K w.params) mg base CX0 k fa fd [x] (spM 1 ⟨K w.params, ⟨[], []⟩⟩ mf))
    (law : ∀ ns : List Int, ns.length ≤ 63 → ∃ h', mf [.scr (ns.map D.int)] [] = some (.bl true, h')) : PySem.W.WalkO q loose XP YP l.row.toRowW d [] (fun f vs => PySem.call f vs) :=
  L2.walk_of (n := 63) (k := k) (x := x) (CX := fun _ => CX0) (sp := fun w => spM 1 ⟨K w.params, ⟨[], []⟩⟩ mf) hn (by decide) hdf hr hY F (fun w H a ns hl _ hS => by
    obtain ⟨h', e⟩ := law ns hl
    exact ⟨rfl, H, [], [], [.scr (ns.map D.int)], start_rh, .one (.scr hS (.ints ns)), _, h', e, fun F' rho' H' v _ _ _ _ _ _ r => by cases r; rfl⟩) fun _ _ _ _ _ z => z
end Mi

set_option Elab.async false
set_option linter.all false
set_option maxRecDepth 100000
/-! Mi, part V: how a meaning is worked out, rule by rule. -/
namespace Mi
open PySem PySem.Spec PyProof.Rows L2

/-! ### sizes -/
def Smn (n : Nat) (i : Int) : Prop := i.natAbs < 2 ^ n
theorem Smn.up {n : Nat} {i : Int} (h : Smn n i) (hn : n ≤ bigN) : smI i := Nat.lt_of_lt_of_le h (Nat.pow_le_pow_right (by decide) hn)
theorem Smn.mono {n m : Nat} {i : Int} (h : Smn n i) (hn : n ≤ m) : Smn m i := Nat.lt_of_lt_of_le h (Nat.pow_le_pow_right (by decide) hn)
theorem Smn.mul {n m : Nat} {i j : Int} (h : Smn n i) (h2 : Smn m j) : Smn (n + m) (i * j) := wide_lt h h2
theorem Smn.add {n m : Nat} {i j : Int} (h : Smn n i) (h2 : Smn m j) : Smn (max n m + 1) (i + j) := by
  have a := h.mono (Nat.le_max_left n m)
  have b := h2.mono (Nat.le_max_right n m)
  unfold Smn at *
  rw [Nat.pow_succ]
  omega
theorem Smn.sub {n m : Nat} {i j : Int} (h : Smn n i) (h2 : Smn m j) : Smn (max n m + 1) (i - j) := by
  have a := h.mono (Nat.le_max_left n m)
  have b := h2.mono (Nat.le_max_right n m)
  unfold Smn at *
  rw [Nat.pow_succ]
  omega
theorem Smn.neg {n : Nat} {i : Int} (h : Smn n i) : Smn n (-i) := by
  unfold Smn at *
  omega
theorem Smn.of {i : Int} (h : -9223372036854775808 ≤ i ∧ i ≤ 9223372036854775807) : Smn 64 i := by
  unfold Smn
  omega
theorem Smn.nat {n : Nat} (h : n < 2 ^ 64) : Smn 64 (OfNat.ofNat n : Int) := by
  unfold Smn
  exact h
theorem Smn.ite {n m : Nat} {i j : Int} {c : Prop} [Decidable c] (h : Smn n i) (h2 : Smn m j) : Smn (max n m) (if c then i else j) := by
  split
  · exact h.mono (Nat.le_max_left _ _)
  · exact h2.mono (Nat.le_max_right _ _)
theorem Smn.div {n : Nat} {i j : Int} (h : Smn n i) (hj : 0 < j) : Smn n (i / j) := by
  unfold Smn at *
  refine Nat.lt_of_le_of_lt ?_ h
  have h1 := Int.natAbs_ediv_le_natAbs i j
  exact h1
theorem Smn.mod {n : Nat} {i j : Int} (h : Smn n j) (hj : 0 < j) : Smn n (i % j) := by
  unfold Smn at *
  have h1 := Int.emod_nonneg i (show j ≠ 0 by omega)
  have h2 := Int.emod_lt_of_pos i hj
  omega

/-! ### rules -/
section
variable {z z1 z2 z3 : Z} {a b c : M D} {x y w d : D} {i j k : Int} {p q : Bool} {t u : M Bool} {s : List Sl} {h h' : List D}
end
def isNon : D → Bool
  | .non => true
  | _ => false
def noScr : D → Bool
  | .scr _ => false
  | _ => true
def itemsOf : D → Option (List D)
  | .lst ys => some ys
  | .tup ys => some ys
  | .scr ys => some ys
  | _ => none
section
variable {z z1 z2 z3 : Z} {a b c : M D} {x y w d : D} {i j k : Int} {p q : Bool} {t u : M Bool} {s : List Sl} {h h' : List D}
theorem ev_var {n : Nat} (e : z.s[n]? = some (.val d)) : E.var n z = some (d, z) := by
  unfold E.var
  rw [e]
theorem ev_varO {n : Nat} (e : z.s[n]? = some (.own d)) : E.var n z = some (.own n, z) := by
  unfold E.var
  rw [e]
theorem ev_c : E.c d z = some (d, z) := rfl
theorem bnd_of {α β : Type} {m : M α} {f : α → M β} {v : α} (h : m z = some (v, z1)) : bnd m f z = f v z1 := by
  unfold bnd
  rw [h]
theorem ev_op {f : D → D → Z → Option D} (h1 : a z = some (x, z1)) (h2 : b z1 = some (y, z2)) (h3 : f x y z2 = some d) : E.op f a b z = some (d, z2) := by
  unfold E.op
  rw [bnd_of h1, bnd_of h2, h3]
theorem ev_un {f : D → Z → Option D} (h1 : a z = some (x, z1)) (h3 : f x z1 = some d) : E.un f a z = some (d, z1) := by
  unfold E.un
  rw [bnd_of h1, h3]
theorem ev_add (h1 : a z = some (.int i, z1)) (h2 : b z1 = some (.int j, z2)) : E.op O.add a b z = some (.int (i + j), z2) := ev_op h1 h2 rfl
theorem ev_sub (h1 : a z = some (.int i, z1)) (h2 : b z1 = some (.int j, z2)) : E.op O.sub a b z = some (.int (i - j), z2) := ev_op h1 h2 rfl
theorem mul_v (hi : smI i) (hj : smI j) : O.mul (.int i) (.int j) z = some (.int (i * j)) := by
  unfold O.mul
  exact if_pos ⟨hi, hj⟩
theorem div_v (hi : 0 < j) (hj : smI j) : O.div (.int i) (.int j) z = some (.int (i / j)) := by
  unfold O.div
  exact if_pos ⟨hi, hj⟩
theorem mod_v (hi : 0 < j) : O.mod (.int i) (.int j) z = some (.int (i % j)) := by
  unfold O.mod
  exact if_pos hi
theorem ev_mul {n m : Nat} (h1 : a z = some (.int i, z1)) (h2 : b z1 = some (.int j, z2)) (hi : Smn n i) (hj : Smn m j) (hn : n ≤ bigN) (hm : m ≤ bigN) : E.op O.mul a b z = some (.int (i * j), z2) := ev_op h1 h2 (mul_v (hi.up hn) (hj.up hm))
theorem ev_div {m : Nat} (h1 : a z = some (.int i, z1)) (h2 : b z1 = some (.int j, z2)) (hi : 0 < j) (hj : Smn m j) (hm : m ≤ bigN) : E.op O.div a b z = some (.int (i / j), z2) := ev_op h1 h2 (div_v hi (hj.up hm))
theorem ev_mod (h1 : a z = some (.int i, z1)) (h2 : b z1 = some (.int j, z2)) (hi : 0 < j) : E.op O.mod a b z = some (.int (i % j), z2) := ev_op h1 h2 (mod_v hi)
theorem ev_neg (h1 : a z = some (.int i, z1)) : E.un O.neg a z = some (.int (-i), z1) := ev_un h1 rfl
theorem ev_lt (h1 : a z = some (.int i, z1)) (h2 : b z1 = some (.int j, z2)) : E.op O.lt a b z = some (.bl (decide (i < j)), z2) := ev_op h1 h2 rfl
theorem ev_le (h1 : a z = some (.int i, z1)) (h2 : b z1 = some (.int j, z2)) : E.op O.le a b z = some (.bl (decide (i ≤ j)), z2) := ev_op h1 h2 rfl
theorem ev_gt (h1 : a z = some (.int i, z1)) (h2 : b z1 = some (.int j, z2)) : E.op O.gt a b z = some (.bl (decide (j < i)), z2) := ev_op h1 h2 rfl
theorem ev_ge (h1 : a z = some (.int i, z1)) (h2 : b z1 = some (.int j, z2)) : E.op O.ge a b z = some (.bl (decide (j ≤ i)), z2) := ev_op h1 h2 rfl
theorem eqP_int : O.eqP (.int i) (.int j) z = some (decide (i = j)) := by
  show (if True ∧ True then some (i == j) else none) = _
  rw [if_pos ⟨trivial, trivial⟩, Bool.beq_eq_decide_eq]
theorem ev_eq {kk : Bool} (h1 : a z = some (x, z1)) (h2 : b z1 = some (y, z2)) (h3 : O.eqP x y z2 = some kk) : E.op O.eq a b z = some (.bl kk, z2) := ev_op h1 h2 (by unfold O.eq; rw [h3]; rfl)
theorem ev_ne {kk : Bool} (h1 : a z = some (x, z1)) (h2 : b z1 = some (y, z2)) (h3 : O.eqP x y z2 = some kk) : E.op O.ne a b z = some (.bl (!kk), z2) := ev_op h1 h2 (by unfold O.ne; rw [h3]; rfl)
theorem ev_eqI (h1 : a z = some (.int i, z1)) (h2 : b z1 = some (.int j, z2)) : E.op O.eq a b z = some (.bl (decide (i = j)), z2) := ev_eq h1 h2 eqP_int
theorem ev_neI (h1 : a z = some (.int i, z1)) (h2 : b z1 = some (.int j, z2)) : E.op O.ne a b z = some (.bl (!decide (i = j)), z2) := ev_ne h1 h2 eqP_int
theorem ev_ix {tt : Bool} {ds : List D} (h1 : a z = some (x, z1)) (h2 : b z1 = some (.int i, z2)) (h3 : cont x z2 = some (tt, ds)) (h4 : atI ds i = some d) : E.op O.ix a b z = some (d, z2) := ev_op h1 h2 (by unfold O.ix; rw [h3]; exact h4)
theorem ev_isN (h1 : a z = some (x, z1)) {kk : Bool} (h2 : isNon x = kk) : E.isN a z = some (.bl kk, z1) := by
  unfold E.isN
  rw [bnd_of h1, ← h2]
  cases x <;> rfl
theorem ev_notN (h1 : a z = some (x, z1)) {kk : Bool} (h2 : (!isNon x) = kk) : E.notN a z = some (.bl kk, z1) := by
  unfold E.notN
  rw [bnd_of h1, ← h2]
  cases x <;> rfl
theorem ev_args0 : E.args [] z = some ([], z) := rfl
theorem ev_args {as : List (M D)} {xs : List D} (h1 : a z = some (x, z1)) (h2 : E.args as z1 = some (xs, z2)) (hp : isPure x = true) : E.args (a :: as) z = some (x :: xs, z2) := by
  unfold E.args
  rw [bnd_of h1, bnd_of h2, if_pos hp]
  rfl
theorem ev_tup {as : List (M D)} {xs : List D} (h1 : E.args as z = some (xs, z1)) : E.tup as z = some (.tup xs, z1) := by
  unfold E.tup
  rw [bnd_of h1]
  rfl
theorem ev_frz {m : M (List D)} {xs : List D} (h1 : m z = some (xs, z1)) : E.frz m z = some (.lst xs, z1) := by
  unfold E.frz
  rw [bnd_of h1]
  rfl
theorem ev_shr {m : M (List D)} {xs : List D} (h1 : m z = some (xs, ⟨s, h⟩)) : E.shr m z = some (.ref h.length, ⟨s, h ++ [.lst xs]⟩) := by
  unfold E.shr
  rw [bnd_of h1]
theorem ev_disp {as : List (M D)} {xs : List D} (h1 : E.args as z = some (xs, z1)) : N.disp as z = some (xs, z1) := h1
theorem ev_call {mf : Fn} {as : List (M D)} {xs : List D} (h1 : E.args as z = some (xs, ⟨s, h⟩)) (h2 : mf xs h = some (d, h')) : E.call mf as z = some (d, ⟨s, h'⟩) := by
  unfold E.call
  rw [bnd_of h1]
  show (match mf xs h with | none => none | some (d, h') => some (d, _)) = _
  rw [h2]
theorem ev_blt1 {f : List D → Z → Option D} (h1 : a z = some (x, z1)) (h2 : f [x] z1 = some d) : E.blt f [a] z = some (d, z1) := by
  show bnd a _ z = _
  rw [bnd_of h1, h2]
theorem ev_blt2 {f : List D → Z → Option D} {xs : List D} (h1 : E.args [a, b] z = some (xs, z1)) (h2 : f xs z1 = some d) : E.blt f [a, b] z = some (d, z1) := by
  show bnd (E.args [a, b]) _ z = _
  rw [bnd_of h1, h2]
theorem ev_and (h1 : a z = some (.bl p, z)) (h2 : p = true → b z = some (.bl q, z)) : E.and a b z = some (.bl (p && q), z) := by
  unfold E.and
  rw [bnd_of h1]
  cases p with
  | true => exact h2 rfl
  | false => rfl
theorem ev_or (h1 : a z = some (.bl p, z)) (h2 : p = false → b z = some (.bl q, z)) : E.or a b z = some (.bl (p || q), z) := by
  unfold E.or
  rw [bnd_of h1]
  cases p with
  | false => exact h2 rfl
  | true => rfl
theorem ev_not (h1 : a z = some (.bl p, z1)) : E.not a z = some (.bl (!p), z1) := by
  unfold E.not
  rw [bnd_of h1]
  rfl
theorem ev_chain {f g : D → D → Z → Option D} (h1 : a z = some (x, z1)) (h2 : b z1 = some (y, z1)) (h3 : f x y z1 = some (.bl p)) (h4 : p = true → c z1 = some (w, z1)) (h5 : p = true → g y w z1 = some (.bl q)) : E.chain f g a b c z = some (.bl (p && q), z1) := by
  unfold E.chain
  rw [bnd_of h1, bnd_of h2, h3]
  cases p with
  | true =>
    dsimp only
    rw [bnd_of (h4 rfl), h5 rfl]
    rfl
  | false => rfl
theorem ev_iteT (h1 : t z = some (true, z1)) {r : Option (D × Z)} (h2 : a z1 = r) : E.ite t a b z = r := by
  unfold E.ite
  rw [bnd_of h1]
  exact h2
theorem ev_iteF (h1 : t z = some (false, z1)) {r : Option (D × Z)} (h2 : b z1 = r) : E.ite t a b z = r := by
  unfold E.ite
  rw [bnd_of h1]
  exact h2
theorem ev_iteI (h1 : t z = some (p, z1)) (h2 : p = true → a z1 = some (.int i, z2)) (h3 : p = false → b z1 = some (.int j, z2)) : E.ite t a b z = some (.int (if p = true then i else j), z2) := by
  unfold E.ite
  rw [bnd_of h1]
  cases p with
  | true => exact h2 rfl
  | false => exact h3 rfl
theorem ev_iteD (h1 : t z = some (p, z1)) (h2 : p = true → a z1 = some (x, z2)) (h3 : p = false → b z1 = some (y, z2)) : E.ite t a b z = some (if p = true then x else y, z2) := by
  unfold E.ite
  rw [bnd_of h1]
  cases p with
  | true => exact h2 rfl
  | false => exact h3 rfl
/-! tests -/
theorem tv (h1 : a z = some (.bl p, z1)) : T.val a z = some (p, z1) := by
  unfold T.val
  rw [bnd_of h1]
  rfl
theorem tt_tru (h1 : a z = some (x, z1)) (h2 : O.tru x z1 = some p) : T.tru a z = some (p, z1) := by
  unfold T.tru
  rw [bnd_of h1, h2]
theorem tt_and (h1 : t z = some (p, z)) (h2 : p = true → u z = some (q, z)) : T.and t u z = some (p && q, z) := by
  unfold T.and
  rw [bnd_of h1]
  cases p with
  | true => exact h2 rfl
  | false => rfl
theorem tt_or (h1 : t z = some (p, z)) (h2 : p = false → u z = some (q, z)) : T.or t u z = some (p || q, z) := by
  unfold T.or
  rw [bnd_of h1]
  cases p with
  | false => exact h2 rfl
  | true => rfl
theorem tt_not (h1 : t z = some (p, z1)) : T.not t z = some (!p, z1) := by
  unfold T.not
  rw [bnd_of h1]
  rfl
/-! new lists -/
theorem ev_ofSeq {tt : Bool} {ds : List D} (h1 : a z = some (x, z1)) (h2 : cont x z1 = some (tt, ds)) : N.ofSeq a z = some (ds, z1) := by
  unfold N.ofSeq
  rw [bnd_of h1, h2]
theorem ev_part0 : N.part none z = some (none, z) := rfl
theorem ev_part (h1 : a z = some (.int i, z1)) : N.part (some a) z = some (some i, z1) := by
  show bnd a _ z = _
  rw [bnd_of h1]
  rfl
theorem ev_slice {lo hi : Option (M D)} {l u : Option Int} {ds : List D} (h1 : a z = some (x, z1)) (h2 : N.part lo z1 = some (l, z2)) (h3 : N.part hi z2 = some (u, z3)) (h4 : cont x z3 = some (false, ds)) : N.slice a lo hi z = some (N.cutL ds l u, z3) := by
  unfold N.slice
  rw [bnd_of h1, bnd_of h2, bnd_of h3, h4]
theorem ev_cat {ds es : List D} (h1 : a z = some (x, z1)) (h2 : b z1 = some (y, z2)) (h3 : cont x z2 = some (false, ds)) (h4 : cont y z2 = some (false, es)) (hx : noScr x = true) (hy : noScr y = true) (hl : ds.length + es.length < szl) : N.cat a b z = some (ds ++ es, z2) := by
  unfold N.cat
  rw [bnd_of h1, bnd_of h2]
  try dsimp only
  split
  · cases hx
  · cases hy
  · rw [h3, h4]
    dsimp only
    rw [if_pos hl]
/-! changes -/
theorem ev_chgO {f : List D → List D → Option (D × List D)} {as : List (M D)} {xs ds ds0 ds' : List D} {n : Nat} (h1 : a z = some (.own n, z1)) (h0 : z1.s[n]? = some (.own (.lst ds0))) (h2 : E.args as z1 = some (xs, ⟨s, h⟩)) (h3 : s[n]? = some (.own (.lst ds))) (h4 : f ds xs = some (d, ds')) : E.chg f a as z = some (d, ⟨s.set n (.own (.lst ds')), h⟩) := by
  unfold E.chg
  rw [bnd_of h1]
  have hi : E.isLst (.own n) z1 = true := by
    show (cont (.own n) z1).isSome = true
    show (match z1.s[n]? with | some (.own (.lst xs)) => some (false, xs) | _ => none).isSome = true
    rw [h0]
    rfl
  try dsimp only
  rw [if_pos hi, bnd_of h2]
  show (match s[n]? with
    | some (.own (.lst ds)) => match f ds xs with
      | none => none
      | some (d, ds') => some (d, (⟨s.set n (.own (.lst ds')), h⟩ : Z))
    | _ => none) = _
  rw [h3]
  dsimp only
  rw [h4]
theorem ev_chgR {f : List D → List D → Option (D × List D)} {as : List (M D)} {xs ds ds0 ds' : List D} {n : Nat} (h1 : a z = some (.ref n, z1)) (h0 : z1.h[n]? = some (.lst ds0)) (h2 : E.args as z1 = some (xs, ⟨s, h⟩)) (h3 : h[n]? = some (.lst ds)) (h4 : f ds xs = some (d, ds')) : E.chg f a as z = some (d, ⟨s, h.set n (.lst ds')⟩) := by
  unfold E.chg
  rw [bnd_of h1]
  have hi : E.isLst (.ref n) z1 = true := by
    show (match z1.h[n]? with | some (.lst xs) => some (false, xs) | _ => none).isSome = true
    rw [h0]
    rfl
  try dsimp only
  rw [if_pos hi, bnd_of h2]
  show (match h[n]? with
    | some (.lst ds) => match f ds xs with
      | none => none
      | some (d, ds') => some (d, (⟨s, h.set n (.lst ds')⟩ : Z))
    | _ => none) = _
  rw [h3]
  dsimp only
  rw [h4]
theorem ixN0 {n : Nat} : ixN (n + 1) 0 = some 0 := by
  unfold ixN
  rw [if_pos (by decide), if_pos (by omega)]
  rfl
theorem popAt0 {ds : List D} : U.popAt (x :: ds) [.int 0] = some (x, ds) := by
  show (if -(2 ^ 63) ≤ (0 : Int) ∧ (0 : Int) < 2 ^ 63 then match ixN (ds.length + 1) 0 with
    | some k => match (x :: ds)[k]? with
      | some d => some (d, (x :: ds).eraseIdx k)
      | none => none
    | none => none else none) = _
  rw [if_pos (by decide), ixN0]
  rfl
theorem setAt0 {ds : List D} : U.setAt (x :: ds) 0 y = some (y :: ds) := by
  show (ixN (ds.length + 1) 0).map _ = _
  rw [ixN0]
  rfl
theorem append_v {ds : List D} (h : ds.length < szl) : U.append ds [x] = some (.non, ds ++ [x]) := if_pos h
/-! statements -/
variable {ca cb : C} {f : Fl} {r : Option (Fl × Z)}
theorem cs_skip : C.skip z = some (.nx, z) := rfl
theorem cs_nx (h1 : ca z = some (.nx, z1)) (h2 : cb z1 = r) : C.seq ca cb z = r := by
  unfold C.seq
  rw [h1]
  exact h2
theorem cs_rt (h1 : ca z = some (.rt d, z1)) : C.seq ca cb z = some (.rt d, z1) := by
  unfold C.seq
  rw [h1]
theorem cs_ct (h1 : ca z = some (.ct, z1)) : C.seq ca cb z = some (.ct, z1) := by
  unfold C.seq
  rw [h1]
theorem cs_bk (h1 : ca z = some (.bk, z1)) : C.seq ca cb z = some (.bk, z1) := by
  unfold C.seq
  rw [h1]
theorem cs_set {n : Nat} (h1 : a z = some (d, ⟨s, h⟩)) (hp : isPure d = true) : C.set n a z = some (.nx, ⟨s.set n (.val d), h⟩) := by
  unfold C.set
  rw [bnd_of h1]
  exact if_pos hp
theorem cs_own {n : Nat} {m : M (List D)} {ds : List D} (h1 : m z = some (ds, ⟨s, h⟩)) (hn : n < s.length) : C.own n m z = some (.nx, ⟨s.set n (.own (.lst ds)), h⟩) := by
  unfold C.own
  rw [bnd_of h1]
  exact if_pos hn
theorem cs_frz {n : Nat} {ds : List D} (h1 : s[n]? = some (.own (.lst ds))) : C.frz n ⟨s, h⟩ = some (.nx, ⟨s.set n (.val (.lst ds)), h⟩) := by
  unfold C.frz
  rw [h1]
theorem cs_drop (h1 : a z = some (d, z1)) : C.drop a z = some (.nx, z1) := by
  unfold C.drop
  rw [bnd_of h1]
theorem cs_ret (h1 : a z = some (d, z1)) (hp : isPure d = true) : C.ret a z = some (.rt d, z1) := by
  unfold C.ret
  rw [bnd_of h1]
  cases d <;> first | rfl | cases hp
theorem cs_retO {n : Nat} {ds : List D} (h1 : a z = some (.own n, ⟨s, h⟩)) (h2 : s[n]? = some (.own (.lst ds))) : C.ret a z = some (.rt (.lst ds), ⟨s.set n .no, h⟩) := by
  unfold C.ret
  rw [bnd_of h1]
  show (match s[n]? with | some (.own (.lst ds)) => some (Fl.rt (D.lst ds), (⟨s.set n .no, h⟩ : Z)) | _ => none) = _
  rw [h2]
theorem cs_retS {n : Nat} {ds : List D} (h1 : a z = some (.own n, ⟨s, h⟩)) (h2 : s[n]? = some (.own (.lst ds))) : C.retS a z = some (.rt (.ref h.length), ⟨s.set n .no, h ++ [D.lst ds]⟩) := by
  unfold C.retS
  rw [bnd_of h1]
  show (match s[n]? with | some (.own (.lst ds)) => some (Fl.rt (D.ref h.length), (⟨s.set n .no, h ++ [D.lst ds]⟩ : Z)) | _ => none) = _
  rw [h2]
theorem cs_iteT (h1 : t z = some (true, z1)) (h2 : ca z1 = r) : C.ite t ca cb z = r := by
  unfold C.ite
  rw [bnd_of h1]
  exact h2
theorem cs_iteF (h1 : t z = some (false, z1)) (h2 : cb z1 = r) : C.ite t ca cb z = r := by
  unfold C.ite
  rw [bnd_of h1]
  exact h2
theorem cs_ite (h1 : t z = some (p, z1)) (h2 : p = true → ca z1 = r) (h3 : p = false → cb z1 = r) : C.ite t ca cb z = r := by
  unfold C.ite
  rw [bnd_of h1]
  cases p with
  | true => exact h2 rfl
  | false => exact h3 rfl
theorem cs_asg {g : G} (h1 : a z = some (d, z1)) (hp : isPure d = true) (h2 : g.run d z1 = some z2) : C.asg g a z = some (.nx, z2) := by
  unfold C.asg
  rw [bnd_of h1]
  try dsimp only
  rw [if_pos hp, h2]
theorem cs_aug {n : Nat} {g : D → D → Z → Option D} (h1 : z.s[n]? = some (.val x)) (h2 : a z = some (y, ⟨s, h⟩)) (h3 : g x y ⟨s, h⟩ = some d) (hp : isPure d = true) : C.aug n g a z = some (.nx, ⟨s.set n (.val d), h⟩) := by
  unfold C.aug
  rw [h1]
  dsimp only
  rw [bnd_of h2, h3]
  exact if_pos hp
theorem cs_setIxO {n : Nat} {ds ds' : List D} (h1 : c z = some (d, z1)) (h2 : a z1 = some (.own n, z2)) (h3 : b z2 = some (.int i, ⟨s, h⟩)) (hp : isPure d = true) (h4 : s[n]? = some (.own (.lst ds))) (h5 : U.setAt ds i d = some ds') : C.setIx a b c z = some (.nx, ⟨s.set n (.own (.lst ds')), h⟩) := by
  unfold C.setIx
  rw [bnd_of h1, bnd_of h2, bnd_of h3, if_pos hp]
  show (match s[n]? with
      | some (.own (.lst ds)) => match U.setAt ds i d with
        | some ds' => some (Fl.nx, (⟨s.set n (.own (.lst ds')), h⟩ : Z))
        | none => none
      | _ => none) = _
  rw [h4]
  dsimp only
  rw [h5]
theorem cs_setIxR {n : Nat} {ds ds' : List D} (h1 : c z = some (d, z1)) (h2 : a z1 = some (.ref n, z2)) (h3 : b z2 = some (.int i, ⟨s, h⟩)) (hp : isPure d = true) (h4 : h[n]? = some (.lst ds)) (h5 : U.setAt ds i d = some ds') : C.setIx a b c z = some (.nx, ⟨s, h.set n (.lst ds')⟩) := by
  unfold C.setIx
  rw [bnd_of h1, bnd_of h2, bnd_of h3, if_pos hp]
  show (match h[n]? with
      | some (.lst ds) => match U.setAt ds i d with
        | some ds' => some (Fl.nx, (⟨s, h.set n (.lst ds')⟩ : Z))
        | none => none
      | _ => none) = _
  rw [h4]
  dsimp only
  rw [h5]
theorem cs_setN {n : Nat} {s' : List Sl} (h1 : a z = some (d, ⟨s, h⟩)) (hp : isPure d = true) (hs : s.set n (.val d) = s') : C.set n a z = some (.nx, ⟨s', h⟩) := by
  subst hs
  exact cs_set h1 hp
theorem cs_ownN {n : Nat} {m : M (List D)} {ds : List D} {s' : List Sl} (h1 : m z = some (ds, ⟨s, h⟩)) (hn : n < s.length) (hs : s.set n (.own (.lst ds)) = s') : C.own n m z = some (.nx, ⟨s', h⟩) := by
  subst hs
  exact cs_own h1 hn
theorem cs_frzN {n : Nat} {ds : List D} {s' : List Sl} (h1 : s[n]? = some (.own (.lst ds))) (hs : s.set n (.val (.lst ds)) = s') : C.frz n ⟨s, h⟩ = some (.nx, ⟨s', h⟩) := by
  subst hs
  exact cs_frz h1
theorem cs_augN {n : Nat} {g : D → D → Z → Option D} {s' : List Sl} (h1 : z.s[n]? = some (.val x)) (h2 : a z = some (y, ⟨s, h⟩)) (h3 : g x y ⟨s, h⟩ = some d) (hp : isPure d = true) (hs : s.set n (.val d) = s') : C.aug n g a z = some (.nx, ⟨s', h⟩) := by
  subst hs
  exact cs_aug h1 h2 h3 hp
theorem cs_setIxN {n : Nat} {ds ds' : List D} {s' : List Sl} (h1 : c z = some (d, z1)) (h2 : a z1 = some (.own n, z2)) (h3 : b z2 = some (.int i, ⟨s, h⟩)) (hp : isPure d = true) (h4 : s[n]? = some (.own (.lst ds))) (h5 : U.setAt ds i d = some ds') (hs : s.set n (.own (.lst ds')) = s') : C.setIx a b c z = some (.nx, ⟨s', h⟩) := by
  subst hs
  exact cs_setIxO h1 h2 h3 hp h4 h5
theorem ev_chgN {f : List D → List D → Option (D × List D)} {as : List (M D)} {xs ds ds0 ds' : List D} {n : Nat} {s' : List Sl} (h1 : a z = some (.own n, z1)) (h0 : z1.s[n]? = some (.own (.lst ds0))) (h2 : E.args as z1 = some (xs, ⟨s, h⟩)) (h3 : s[n]? = some (.own (.lst ds))) (h4 : f ds xs = some (d, ds')) (hs : s.set n (.own (.lst ds')) = s') : E.chg f a as z = some (d, ⟨s', h⟩) := by
  subst hs
  exact ev_chgO h1 h0 h2 h3 h4
theorem fn_rt {n k : Nat} {ds : List D} (hl : ds.length = k) (h1 : ca ⟨slots n ds, h⟩ = some (.rt d, z)) : fn n k ca ds h = some (d, z.h) := by
  unfold fn
  rw [if_pos hl, h1]
theorem fn_rtH {n k : Nat} {ds : List D} (hl : ds.length = k) (h1 : ca ⟨slots n ds, h⟩ = some (.rt d, ⟨s, h'⟩)) : fn n k ca ds h = some (d, h') := fn_rt hl h1
theorem fn_rtN {n k : Nat} {ds : List D} {s' : List Sl} (hl : ds.length = k) (hs : slots n ds = s') (h1 : ca ⟨s', h⟩ = some (.rt d, ⟨s, h'⟩)) : fn n k ca ds h = some (d, h') := by
  subst hs
  exact fn_rt hl h1
theorem fn_nx {n k : Nat} {ds : List D} (hl : ds.length = k) (h1 : ca ⟨slots n ds, h⟩ = some (.nx, z)) : fn n k ca ds h = some (.non, z.h) := by
  unfold fn
  rw [if_pos hl, h1]
end

theorem ev_to {α : Type} {m : M α} {z z' w : Z} {x x' : α} (h : m z = some (x', z')) (hx : x' = x) (hz : z' = w) : m z = some (x, w) := by
  rw [h, hx, hz]
/-- a body that ends with a value -/
def Ends (c : C) (z : Z) (d : D) : Prop := ∃ z', c z = some (.rt d, z')
theorem Ends.nx {a b : C} {z z1 : Z} {d : D} (h1 : a z = some (.nx, z1)) (h2 : Ends b z1 d) : Ends (C.seq a b) z d := by
  obtain ⟨z', h⟩ := h2
  exact ⟨z', cs_nx h1 h⟩
theorem Ends.one {a : C} {z z1 : Z} {d : D} (h1 : a z = some (.rt d, z1)) : Ends a z d := ⟨z1, h1⟩
theorem Ends.fn {b : C} {n k : Nat} {ds h : List D} {d : D} (hl : ds.length = k) (h1 : Ends b ⟨slots n ds, h⟩ d) : ∃ h', fn n k b ds h = some (d, h') := by
  obtain ⟨z', h⟩ := h1
  exact ⟨_, fn_rt hl h⟩
/-! ### loops -/
section
variable {it : It} {g : G} {b : C} {z z1 z2 : Z} {mi : M It}
theorem cs_for (h1 : mi z = some (it, z1)) {r : Option (Fl × Z)} (h2 : C.loop it g b it.items z1 = r) : C.for_ mi g b z = r := by
  unfold C.for_
  rw [bnd_of h1]
  exact h2
theorem whl_f {t : M Bool} (h1 : t z = some (false, z1)) : C.whl t b z = some (.nx, z1) := by
  rw [C.whl, h1]
theorem whl_t {t : M Bool} {r : Option (Fl × Z)} (h1 : t z = some (true, z1)) (h2 : b z1 = some (.nx, z2)) (h3 : C.whl t b z2 = r) : C.whl t b z = r := by
  rw [C.whl, h1]
  dsimp only
  rw [h2]
  exact h3
theorem whl_rt {t : M Bool} {d : D} (h1 : t z = some (true, z1)) (h2 : b z1 = some (.rt d, z2)) : C.whl t b z = some (.rt d, z2) := by
  rw [C.whl, h1]
  dsimp only
  rw [h2]
theorem whl_bk {t : M Bool} (h1 : t z = some (true, z1)) (h2 : b z1 = some (.bk, z2)) : C.whl t b z = some (.nx, z2) := by
  rw [C.whl, h1]
  dsimp only
  rw [h2]
theorem ok_none {xs : List D} : (⟨xs, none⟩ : It).ok z = true := rfl
theorem loop_nil (hk : it.chk = none) : C.loop it g b [] z = some (.nx, z) := by
  have : it.ok z = true := by unfold It.ok; rw [hk]
  unfold C.loop
  exact if_pos this
theorem loop_cons {d : D} {ds : List D} {f : Fl} {r : Option (Fl × Z)} (hk : it.chk = none) (h1 : g.run d z = some z1) (h2 : b z1 = some (f, z2)) (h3 : (match f with | .nx => C.loop it g b ds z2 | .ct => C.loop it g b ds z2 | .bk => some (.nx, z2) | .rt d => some (.rt d, z2)) = r) : C.loop it g b (d :: ds) z = r := by
  have : it.ok z = true := by unfold It.ok; rw [hk]
  unfold C.loop
  rw [if_pos this, h1]
  dsimp only
  rw [h2, ← h3]
  cases f <;> rfl
/-- a loop by an invariant over the items left: it goes to its end -/
theorem loop_inv {it : It} {g : G} {b : C} (hk : it.chk = none) (P : List D → Z → Prop) (Q : Z → Prop) (step : ∀ d ds z, P (d :: ds) z → ∃ z1 z2, g.run d z = some z1 ∧ (b z1 = some (.nx, z2) ∨ b z1 = some (.ct, z2)) ∧ P ds z2) (fin : ∀ z, P [] z → Q z) : ∀ (ds : List D) (z : Z), P ds z → ∃ z', C.loop it g b ds z = some (.nx, z') ∧ Q z'
  | [], z, h => ⟨z, loop_nil hk, fin z h⟩
  | d :: ds, z, h => by
    obtain ⟨z1, z2, h1, h2, h3⟩ := step d ds z h
    obtain ⟨z', h4, h5⟩ := loop_inv hk P Q step fin ds z2 h3
    refine ⟨z', ?_, h5⟩
    rcases h2 with h2 | h2
    · exact loop_cons hk h1 h2 h4
    · exact loop_cons hk h1 h2 h4
theorem ev_seq {a : M D} {x : D} {xs : List D} (h1 : a z = some (x, z1)) (h2 : itemsOf x = some xs) : I.seq a z = some (⟨xs, none⟩, z1) := by
  unfold I.seq
  rw [bnd_of h1]
  cases x <;> first | (cases h2; rfl) | cases h2
theorem ev_seqC {a : M D} {x : D} {xs : List D} (h1 : a z = some (x, z1)) (h2 : itemsOf x = some xs) : I.seqC a z = some (⟨xs, none⟩, z1) := by
  unfold I.seqC
  rw [bnd_of h1]
  cases x <;> first | (cases h2; rfl) | cases h2
theorem ev_rng1 {a : M D} {n : Int} (h1 : a z = some (.int n, z1)) (h2 : -(2 ^ 62) ≤ n ∧ n < 2 ^ 62) : I.rng1 a z = some (⟨I.irng 0 n.toNat, none⟩, z1) := by
  unfold I.rng1
  rw [bnd_of h1]
  dsimp only
  rw [if_pos h2]
  rfl
theorem ev_rng2 {a b : M D} {i j : Int} (h1 : a z = some (.int i, z1)) (h3 : b z1 = some (.int j, z2)) (h2 : (-(2 ^ 62) ≤ i ∧ i < 2 ^ 62) ∧ -(2 ^ 62) ≤ j ∧ j < 2 ^ 62) : I.rng2 a b z = some (⟨I.irng i (j - i).toNat, none⟩, z2) := by
  unfold I.rng2
  rw [bnd_of h1, bnd_of h3]
  dsimp only
  rw [if_pos h2]
  rfl
/-- a comprehension whose items and elements change nothing: item by item -/
theorem comp_loop {it : It} {g : G} {vs : List Nat} {tt : M Bool} {te : M D} (hk : it.chk = none) (fl : D → Bool) (fe : D → D) (w : Z) (step : ∀ d, d ∈ it.items → ∃ z1 z2 z3, g.run d w = some z1 ∧ tt z1 = some (fl d, z2) ∧ (fl d = true → te z2 = some (fe d, z3) ∧ isPure (fe d) = true) ∧ (fl d = true → (⟨N.wipe z3.s vs, z3.h⟩ : Z) = w) ∧ (fl d = false → (⟨N.wipe z2.s vs, z2.h⟩ : Z) = w)) :
    ∀ (ds : List D) (acc : List D), (∀ d ∈ ds, d ∈ it.items) → N.loop it g vs tt te ds acc w = some (acc ++ (ds.filter fl).map fe, w)
  | [], acc, _ => by
    have : it.ok w = true := by unfold It.ok; rw [hk]
    unfold N.loop
    rw [if_pos this]
    simp
  | d :: ds, acc, hm => by
    have ok : it.ok w = true := by unfold It.ok; rw [hk]
    obtain ⟨z1, z2, z3, h1, h2, h3, h4, h5⟩ := step d (hm d List.mem_cons_self)
    have ih := fun acc => comp_loop hk fl fe w step ds acc fun x hx => hm x (List.mem_cons_of_mem _ hx)
    unfold N.loop
    rw [if_pos ok, h1]
    dsimp only
    rw [h2]
    cases hf : fl d with
    | true =>
      obtain ⟨h6, h7⟩ := h3 hf
      dsimp only
      rw [h6]
      dsimp only
      rw [if_pos h7, h4 hf, ih]
      simp [List.filter_cons, hf]
    | false =>
      dsimp only
      rw [h5 hf, ih]
      simp [List.filter_cons, hf]
/-- .. one by one -/
theorem nl_nil {it : It} {g : G} {vs : List Nat} {tt : M Bool} {te : M D} {acc : List D} (ok : it.ok z = true) : N.loop it g vs tt te [] acc z = some (acc, z) := by
  unfold N.loop
  rw [if_pos ok]
theorem nl_t {it : It} {g : G} {vs : List Nat} {tt : M Bool} {te : M D} {acc ds : List D} {d x : D} {z1 z2 z3 : Z} {r : Option (List D × Z)} (ok : it.ok z = true) (h1 : g.run d z = some z1) (h2 : tt z1 = some (true, z2)) (h3 : te z2 = some (x, z3)) (hp : isPure x = true) (h4 : N.loop it g vs tt te ds (acc ++ [x]) ⟨N.wipe z3.s vs, z3.h⟩ = r) : N.loop it g vs tt te (d :: ds) acc z = r := by
  unfold N.loop
  rw [if_pos ok, h1]
  dsimp only
  rw [h2]
  dsimp only
  rw [h3]
  dsimp only
  rw [if_pos hp]
  exact h4
theorem nl_tN {it : It} {g : G} {vs : List Nat} {tt : M Bool} {te : M D} {acc acc' ds : List D} {d x : D} {z1 z2 : Z} {s3 s4 : List Sl} {h3 : List D} {r : Option (List D × Z)} (ok : it.ok z = true) (h1 : g.run d z = some z1) (h2 : tt z1 = some (true, z2)) (h3' : te z2 = some (x, ⟨s3, h3⟩)) (hp : isPure x = true) (hw : N.wipe s3 vs = s4) (ha : acc ++ [x] = acc') (h4 : N.loop it g vs tt te ds acc' ⟨s4, h3⟩ = r) : N.loop it g vs tt te (d :: ds) acc z = r := by
  subst hw
  subst ha
  exact nl_t ok h1 h2 h3' hp h4
theorem ev_compN {mi : M It} {it : It} {g : G} {vs : List Nat} {tt : M Bool} {te : M D} {r : List D} {s1 s2 s3 s4 : List Sl} {h1' h2' : List D} (h1 : mi z = some (it, ⟨s1, h1'⟩)) (h2 : it.items.length ≤ szl) (h3 : (vs.all fun v => !N.isOwn s1[v]?) = true) (hw : N.wipe s1 vs = s3) (h4 : N.loop it g vs tt te it.items [] ⟨s3, h1'⟩ = some (r, ⟨s2, h2'⟩)) (hr : N.rest s1 s2 vs = s4) : N.comp mi g vs tt te z = some (r, ⟨s4, h2'⟩) := by
  subst hw hr
  unfold N.comp
  rw [bnd_of h1]
  dsimp only
  rw [if_pos ⟨h2, h3⟩, h4]
theorem nl_f {it : It} {g : G} {vs : List Nat} {tt : M Bool} {te : M D} {acc ds : List D} {d : D} {z1 z2 : Z} {r : Option (List D × Z)} (ok : it.ok z = true) (h1 : g.run d z = some z1) (h2 : tt z1 = some (false, z2)) (h4 : N.loop it g vs tt te ds acc ⟨N.wipe z2.s vs, z2.h⟩ = r) : N.loop it g vs tt te (d :: ds) acc z = r := by
  unfold N.loop
  rw [if_pos ok, h1]
  dsimp only
  rw [h2]
  exact h4
theorem ok_own {xs : List D} {d : D} {t : Bool} (h : cont d z = some (t, xs)) : (⟨xs, some d⟩ : It).ok z = true := by
  unfold It.ok
  dsimp only
  rw [if_pos ⟨t, h⟩]
theorem ev_seqCO {a : M D} {n : Nat} {t : Bool} {xs : List D} (h1 : a z = some (.own n, z1)) (h2 : cont (.own n) z1 = some (t, xs)) : I.seqC a z = some (⟨xs, some (.own n)⟩, z1) := by
  unfold I.seqC
  rw [bnd_of h1]
  show (match cont (.own n) z1 with | some (_, xs) => some ((⟨xs, some (.own n)⟩ : It), z1) | none => none) = _
  rw [h2]
theorem ev_true {α : Type} {x : α} : Mi.ret x z = some (x, z) := rfl
/-- .. by an invariant over the items left and what is made -/
theorem comp_inv {it : It} {g : G} {vs : List Nat} {tt : M Bool} {te : M D} (hk : it.chk = none) (P : List D → List D → Z → Prop)
    (step : ∀ d ds acc z, P (d :: ds) acc z → ∃ z1 z2, g.run d z = some z1 ∧ ((tt z1 = some (false, z2) ∧ P ds acc ⟨N.wipe z2.s vs, z2.h⟩) ∨ ∃ x z3, tt z1 = some (true, z2) ∧ te z2 = some (x, z3) ∧ isPure x = true ∧ P ds (acc ++ [x]) ⟨N.wipe z3.s vs, z3.h⟩)) :
    ∀ (ds acc : List D) (z : Z), P ds acc z → ∃ r z', N.loop it g vs tt te ds acc z = some (r, z') ∧ P [] r z'
  | [], acc, z, h => by
    have : it.ok z = true := by unfold It.ok; rw [hk]
    refine ⟨acc, z, ?_, h⟩
    unfold N.loop
    rw [if_pos this]
  | d :: ds, acc, z, h => by
    have ok : it.ok z = true := by unfold It.ok; rw [hk]
    obtain ⟨z1, z2, h1, h2⟩ := step d ds acc z h
    rcases h2 with ⟨h2, h3⟩ | ⟨x, z3, h2, h3, h4, h5⟩
    · obtain ⟨r, z', h6, h7⟩ := comp_inv hk P step ds acc _ h3
      refine ⟨r, z', ?_, h7⟩
      unfold N.loop
      rw [if_pos ok, h1]
      dsimp only
      rw [h2]
      exact h6
    · obtain ⟨r, z', h6, h7⟩ := comp_inv hk P step ds _ _ h5
      refine ⟨r, z', ?_, h7⟩
      unfold N.loop
      rw [if_pos ok, h1]
      dsimp only
      rw [h2]
      dsimp only
      rw [h3]
      dsimp only
      rw [if_pos h4]
      exact h6
/-- .. in all, where the names of the block are set anew each time -/
theorem ev_comp {mi : M It} {it : It} {g : G} {vs : List Nat} {tt : M Bool} {te : M D} {r : List D} {z1 z2 : Z} (h1 : mi z = some (it, z1)) (h2 : it.items.length ≤ szl) (h3 : (vs.all fun v => !N.isOwn z1.s[v]?) = true) (h4 : N.loop it g vs tt te it.items [] ⟨N.wipe z1.s vs, z1.h⟩ = some (r, z2)) : N.comp mi g vs tt te z = some (r, ⟨N.rest z1.s z2.s vs, z2.h⟩) := by
  unfold N.comp
  rw [bnd_of h1]
  try dsimp only
  rw [if_pos ⟨h2, h3⟩, h4]
end
end Mi

set_option Elab.async false
set_option linter.all false
set_option maxRecDepth 100000
/-! Mi, part W: leaves; the laws' drawing. -/
namespace Mi
open PySem PySem.Spec PyProof.Rows L2
section
variable {x d : D} {z z' : Z} {i j : Int}
theorem lf_cont {r : Option (Bool × List D)} (h : cont x z = r) : cont x z = r := h
theorem lf_atI {ds : List D} {r : Option D} (h : atI ds i = r) : atI ds i = r := h
theorem lf_get {α : Type} {xs : List α} {n : Nat} {r : Option α} (h : xs[n]? = r) : xs[n]? = r := h
theorem lf_pure {r : Bool} (h : isPure d = r) : isPure d = r := h
theorem lf_setAt {ds : List D} {r : Option (List D)} (h : U.setAt ds i d = r) : U.setAt ds i d = r := h
theorem lf_tru {r : Option Bool} (h : O.tru d z = r) : O.tru d z = r := h
theorem lf_lt {n m : Nat} (h : n < m) : n < m := h
theorem lf_pos {i : Int} (h : 0 < i) : 0 < i := h
theorem lf_le {n m : Nat} (h : n ≤ m) : n ≤ m := h
theorem lf_isNm {b : Bool} (h : isNon x = b) : isNon x = b := h
theorem lf_notNm {b : Bool} (h : (!isNon x) = b) : (!isNon x) = b := h
theorem lf_noScr {b : Bool} (h : noScr x = b) : noScr x = b := h
theorem atI_zero {xs : List D} : atI (x :: xs) 0 = some x := atI_nat (j := 0) rfl
theorem lf_abs : F.abs [.int i] z = some (.int (if i < 0 then -i else i)) := rfl
theorem lf_int1 : F.int1 [.int i] z = some (.int i) := rfl
theorem lf_max2 : F.max2 [.int i, .int j] z = some (.int (if j > i then j else i)) := rfl
theorem lf_min2 : F.min2 [.int i, .int j] z = some (.int (if j < i then j else i)) := rfl
theorem lf_len {t : Bool} {ds : List D} (h : cont x z = some (t, ds)) : F.len [x] z = some (.int ds.length) := by
  show (match cont x z with | some (_, ds) => some (D.int ds.length) | none => none) = _
  rw [h]
def noKt : D → Bool
  | .kt _ => false
  | _ => true
theorem lf_noKt {b : Bool} (h : noKt x = b) : noKt x = b := h
theorem lf_tuple {t : Bool} {ds : List D} (h : cont x z = some (t, ds)) (hk : noKt x = true) : F.tuple [x] z = some (.tup ds) := by
  have e : F.tuple [x] z = (match cont x z with | some (_, ds) => some (D.tup ds) | none => none) := by
    cases x <;> first | rfl | cases hk
  rw [e, h]
theorem lf_isi {T t : String} {b : Bool} (h : F.tyName x z = some t) (h2 : kitB t T = some b) : F.isi T x z = some (.bl b) := by
  unfold F.isi
  rw [h]
  dsimp only
  rw [h2]
  rfl
theorem lf_isiK {t T : String} {r : Option Bool} (h : kitB t T = r) : kitB t T = r := h
theorem lf_ty {r : Option String} (h : F.tyName x z = r) : F.tyName x z = r := h
theorem lf_set {s s' : List Sl} {n : Nat} {x : Sl} (h : s.set n x = s') : s.set n x = s' := h
theorem lf_slots {n : Nat} {ds : List D} {s' : List Sl} (h : slots n ds = s') : slots n ds = s' := h
theorem lf_wipe {s s' : List Sl} {vs : List Nat} (h : N.wipe s vs = s') : N.wipe s vs = s' := h
theorem lf_rest {s0 s s' : List Sl} {vs : List Nat} (h : N.rest s0 s vs = s') : N.rest s0 s vs = s' := h
theorem lf_run {g : G} {r : Option Z} (h : g.run d z = r) : g.run d z = r := h
theorem lf_len0 {ds : List D} {n : Nat} (h : ds.length = n) : ds.length = n := h
theorem lf_nl {it : It} {g : G} {vs : List Nat} {tt : M Bool} {te : M D} {ds acc : List D} {z : Z} {r : Option (List D × Z)} (h : N.loop it g vs tt te ds acc z = r) : N.loop it g vs tt te ds acc z = r := h
theorem lf_smn {n : Nat} {i : Int} (h : Smn n i) : Smn n i := h
theorem lf_ok {it : It} {r : Bool} (h : it.ok z = r) : it.ok z = r := h
theorem lf_itm {r : Option (List D)} (h : itemsOf d = r) : itemsOf d = r := h
theorem lf_bd {n : Int} (h : -(2 ^ 62) ≤ n ∧ n < 2 ^ 62) : -(2 ^ 62) ≤ n ∧ n < 2 ^ 62 := h
theorem lf_allO {vs : List Nat} {s : List Sl} {r : Bool} (h : (vs.all fun v => !N.isOwn s[v]?) = r) : (vs.all fun v => !N.isOwn s[v]?) = r := h
theorem lf_nm {n : Nat} {r : Option Z} (h : (G.nm n).run d z = r) : (G.nm n).run d z = r := h
theorem gr_nm {n : Nat} {s s' : List Sl} {h : List D} (e : s.set n (.val d) = s') : (G.nm n).run d ⟨s, h⟩ = some ⟨s', h⟩ := by subst e; rfl
theorem gr_nil {z : Z} : G.runs [] [] z = some z := rfl
theorem gr_cons {g : G} {gs : List G} {ds : List D} {z z1 : Z} {r : Option Z} (e : g.run d z = some z1) (e2 : G.runs gs ds z1 = r) : G.runs (g :: gs) (d :: ds) z = r := by
  show (match g.run d z with | none => none | some z1 => G.runs gs ds z1) = r
  rw [e]; exact e2
theorem gr_tp {gs : List G} {ds : List D} {z : Z} {r : Option Z} (e : G.runs gs ds z = r) : (G.tp gs).run (.tup ds) z = r := e
theorem gr_tl {gs : List G} {ds : List D} {z : Z} {r : Option Z} (e : G.runs gs ds z = r) : (G.tl gs).run (.lst ds) z = r := e
theorem sl_z {a y : Sl} {s : List Sl} : (a :: s).set 0 y = y :: s := rfl
theorem sl_s {a y : Sl} {s s' : List Sl} {n : Nat} (e : s.set n y = s') : (a :: s).set (n + 1) y = a :: s' := by subst e; rfl
theorem sw_nil {s : List Sl} : N.wipe s [] = s := rfl
theorem sw_cons {s s1 s2 : List Sl} {v : Nat} {vs : List Nat} (e : N.wipe s vs = s1) (e2 : s1.set v .no = s2) : N.wipe s (v :: vs) = s2 := by subst e; exact e2
theorem sr_nil {s0 s : List Sl} : N.rest s0 s [] = s := rfl
theorem sr_cons {s0 s s1 s2 : List Sl} {x : Sl} {v : Nat} {vs : List Nat} (e0 : s0[v]? = some x) (e : N.rest s0 s vs = s1) (e2 : s1.set v x = s2) : N.rest s0 s (v :: vs) = s2 := by
  subst e
  show (match s0[v]? with | some x => (N.rest s0 s vs).set v x | none => N.rest s0 s vs) = s2
  rw [e0]; exact e2
theorem ss_nil {n : Nat} {s' : List Sl} (e : List.replicate n Sl.no = s') : slots n [] = s' := by rw [← e]; rfl
theorem ss_cons {n : Nat} {d : D} {ds : List D} {s' : List Sl} (e : slots n ds = s') : slots (n + 1) (d :: ds) = .val d :: s' := by
  rw [← e]; unfold slots; simp
theorem se_nil : List.replicate 0 Sl.no = [] := rfl
theorem se_cons {n : Nat} {s' : List Sl} (e : List.replicate n Sl.no = s') : List.replicate (n + 1) Sl.no = .no :: s' := by rw [← e]; rfl
theorem la_nil {x : D} : ([] : List D) ++ [x] = [x] := rfl
theorem la_cons {x a : D} {l l' : List D} (e : l ++ [x] = l') : (a :: l) ++ [x] = a :: l' := by subst e; rfl
theorem lf_app {x : D} {l l' : List D} (h : l ++ [x] = l') : l ++ [x] = l' := h
theorem kb_tt : kitB "tuple" "tuple" = some true := by with_unfolding_all decide
theorem kb_bb : kitB "bool" "bool" = some true := by with_unfolding_all decide
theorem kb_ii : kitB "int" "int" = some true := by with_unfolding_all decide
theorem kb_it : kitB "int" "tuple" = some false := by with_unfolding_all decide
theorem kb_ib : kitB "int" "bool" = some false := by with_unfolding_all decide
theorem kb_bi : kitB "bool" "int" = some true := by with_unfolding_all decide
theorem kb_ll : kitB "list" "list" = some true := by with_unfolding_all decide
theorem kb_ss : kitB "str" "str" = some true := by with_unfolding_all decide
theorem eqP_t3 {a0 a1 a2 b0 b1 b2 : Int} {z : Z} : O.eqP (.tup [.int a0, .int a1, .int a2]) (.tup [.int b0, .int b1, .int b2]) z = some (decide (a0 = b0) && (decide (a1 = b1) && decide (a2 = b2))) := by
  show some ((a0 == b0) && ((a1 == b1) && ((a2 == b2) && true))) = some _
  simp only [Bool.beq_eq_decide_eq, Bool.and_true]
theorem eqP_t2 {a0 a1 b0 b1 : Int} {z : Z} : O.eqP (.tup [.int a0, .int a1]) (.tup [.int b0, .int b1]) z = some (decide (a0 = b0) && decide (a1 = b1)) := by
  show some ((a0 == b0) && ((a1 == b1) && true)) = some _
  simp only [Bool.beq_eq_decide_eq, Bool.and_true]
theorem so_to {α β : Type} {o : Option (α × β)} {x x' : α} {y y' : β} (h : o = some (x', y')) (hx : x' = x) (hy : y' = y) : o = some (x, y) := by subst hx hy; exact h
theorem eqP_bl {a b : Bool} {z : Z} : O.eqP (.bl a) (.bl b) z = some (decide (a = b)) := by cases a <;> cases b <;> rfl
theorem lf_tp {gs : List G} {r : Option Z} (h : (G.tp gs).run d z = r) : (G.tp gs).run d z = r := h
end
local macro_rules | `(tactic| wtm_at "leaf") => `(tactic| first
  | ((with_reducible apply lf_cont); rfl)
  | (with_reducible exact atI_zero)
  | ((with_reducible apply lf_dcont); rfl)
  | ((with_reducible apply lf_dcS); rfl)
  | ((with_reducible apply lf_dgetC); rfl)
  | ((with_reducible apply lf_keyD); rfl)
  | ((with_reducible apply lf_isDict); rfl)
  | ((with_reducible apply lf_dkeys); rfl)
  | ((with_reducible apply lf_atI); first | rfl | exact atI_zero)
  | ((with_reducible apply lf_get); rfl)
  | ((with_reducible apply lf_pure); rfl)
  | ((with_reducible apply lf_setAt); rfl)
  | ((with_reducible apply lf_tru); rfl)
  | ((with_reducible apply lf_lt); exact Nat.le_of_ble_eq_true rfl)
  | ((with_reducible apply lf_pos); first | assumption | decide | omega)
  | ((with_reducible apply lf_le); decide)
  | ((with_reducible apply lf_isNm); rfl)
  | ((with_reducible apply lf_notNm); rfl)
  | ((with_reducible apply lf_noScr); rfl)
  | ((with_reducible apply lf_noKt); rfl)
  | (with_reducible exact eqP_int)
  | (with_reducible exact lf_abs)
  | (with_reducible exact lf_int1)
  | (with_reducible exact lf_max2)
  | (with_reducible exact lf_min2)
  | (with_reducible apply lf_len)
  | (with_reducible apply lf_tuple)
  | (with_reducible apply lf_isi)
  | (with_reducible exact eqP_t3)
  | (with_reducible exact eqP_bl)
  | (with_reducible exact eqP_t2)
  | (with_reducible exact kb_tt)
  | (with_reducible exact kb_bb)
  | (with_reducible exact kb_ii)
  | (with_reducible exact kb_it)
  | (with_reducible exact kb_ib)
  | (with_reducible exact kb_bi)
  | (with_reducible exact kb_ll)
  | (with_reducible exact kb_ss)
  | ((with_reducible apply lf_isiK); with_unfolding_all decide)
  | ((with_reducible apply lf_ty); rfl)
  | ((with_reducible apply lf_bd); exact ⟨by decide, by decide⟩)
  | ((with_reducible apply lf_allO); rfl)
  | ((with_reducible apply lf_app); first | ((repeat (first | (with_reducible exact la_nil) | (with_reducible apply la_cons))); done) | rfl)
  | ((with_reducible apply lf_set); first | ((repeat (first | (with_reducible exact sl_z) | (with_reducible apply sl_s))); done) | rfl)
  | ((with_reducible apply lf_slots); first | ((repeat (first | (with_reducible exact se_nil) | (with_reducible apply se_cons) | (with_reducible apply ss_cons) | (with_reducible apply ss_nil))); done) | rfl)
  | (with_reducible exact sw_nil)
  | (with_reducible apply sw_cons)
  | ((with_reducible apply lf_wipe); rfl)
  | (with_reducible exact sr_nil)
  | (with_reducible apply sr_cons)
  | ((with_reducible apply lf_rest); rfl)
  | (with_reducible apply gr_nm)
  | (with_reducible exact gr_nil)
  | (with_reducible apply gr_cons)
  | (with_reducible apply gr_tp)
  | (with_reducible apply gr_tl)
  | ((with_reducible apply lf_run); first | (simp only [G.nm, G.tp, G.tl, G.runs, List.set_cons_succ, List.set_cons_zero]; done) | rfl)
  | ((with_reducible apply lf_len0); rfl)
  )
local macro_rules | `(tactic| wtm_at "sm") => `(tactic| first
  | ((with_reducible apply lf_smn); with_reducible assumption)
  | (with_reducible exact Smn.nat (by decide))
  | (with_reducible apply Smn.mul)
  | (with_reducible apply Smn.add)
  | (with_reducible apply Smn.sub)
  | (with_reducible apply Smn.neg)
  | (with_reducible apply Smn.ite)
  | (with_reducible apply Smn.div _ (by omega))
  | (with_reducible apply Smn.mod _ (by omega))
  | ((with_reducible refine Smn.of ?_); omega))
local macro_rules | `(tactic| wtm_at "nl") => `(tactic| first
  | (with_reducible apply ev_rng1)
  | (with_reducible apply ev_rng2)
  | (with_reducible apply nl_nil)
  | ((with_reducible apply lf_nl); first | apply nl_tN | apply nl_nil)
  | ((with_reducible apply lf_ok); rfl)
  | ((with_reducible apply lf_itm); rfl))
local macro_rules | `(tactic| wtm_at "e1") => `(tactic| first
  | (with_reducible intro _)
  | (with_reducible exact ev_c)
  | (with_reducible exact ev_args0)
  | (with_reducible exact ev_part0)
  | ((with_reducible apply ev_var); rfl)
  | ((with_reducible apply ev_varO); rfl)
  | (with_reducible apply ev_ix)
  | (with_reducible apply ev_dix)
  | (with_reducible apply ev_din)
  | (with_reducible apply ev_dnotIn)
  | (with_reducible apply ev_get1)
  | (with_reducible apply ev_get2)
  | (with_reducible apply ev_shrN)
  | (with_reducible apply ev_frzD)
  | (with_reducible exact ev_pairs0)
  | (with_reducible apply ev_pairs)
  | (with_reducible apply ev_dispK)
  | (with_reducible apply ev_sortedD)
  | (with_reducible apply ev_rev)
  | (with_reducible apply ev_cutT)
  | (with_reducible apply ev_catT)
  | (with_reducible apply ev_seqK)
  | (with_reducible apply ev_add)
  | (with_reducible apply ev_sub)
  | (with_reducible apply ev_mul)
  | (with_reducible apply ev_div)
  | (with_reducible apply ev_mod)
  | (with_reducible apply ev_neg)
  | (with_reducible apply ev_lt)
  | (with_reducible apply ev_le)
  | (with_reducible apply ev_gt)
  | (with_reducible apply ev_ge)
  | (with_reducible apply ev_eq)
  | (with_reducible apply ev_ne)
  | (with_reducible apply ev_isN)
  | (with_reducible apply ev_notN)
  | (with_reducible apply ev_args)
  | (with_reducible apply ev_tup)
  | (with_reducible apply ev_frz)
  | (with_reducible apply ev_shr)
  | (with_reducible apply ev_disp)
  | (with_reducible apply ev_blt1)
  | (with_reducible apply ev_blt2)
  | (with_reducible apply ev_un)
  | (with_reducible apply ev_and)
  | (with_reducible apply ev_or)
  | (with_reducible apply ev_not)
  | (with_reducible apply tv)
  | (with_reducible apply tt_tru)
  | (with_reducible apply tt_and)
  | (with_reducible apply tt_or)
  | (with_reducible apply tt_not)
  | (with_reducible apply ev_ofSeq)
  | (with_reducible apply ev_part)
  | (with_reducible apply ev_slice)
  | (with_reducible apply ev_compN)
  | (with_reducible exact ev_true)
  | wtm_at "nl"
  | (with_reducible apply ev_chain)
  | (with_reducible apply ev_call)
  | wtm_at "call"
  | wtm_at "leaf"
  | wtm_at "sm")
local macro_rules | `(tactic| wtm_at "ev") => `(tactic| repeat' wtm_at "e1")
local macro_rules | `(tactic| wtm_at "dec") => `(tactic| decide)
local macro_rules | `(tactic| wtm_at "s1") => `(tactic| first
  | (with_reducible exact cs_skip)
  | (with_reducible apply cs_setN)
  | (with_reducible apply cs_dputO)
  | (with_reducible apply cs_ownD)
  | (with_reducible apply cs_frzD)
  | (with_reducible apply cs_retD)
  | (with_reducible apply cs_ownN)
  | (with_reducible apply cs_frzN)
  | (with_reducible apply cs_augN)
  | (with_reducible apply ev_chgN)
  | (with_reducible apply cs_setIxN)
  | (with_reducible apply cs_drop)
  | (with_reducible apply cs_asg)
  | (with_reducible apply cs_ret)
  | wtm_at "e1")
local macro_rules | `(tactic| wtm_at "st") => `(tactic| repeat' wtm_at "s1")
local macro_rules | `(tactic| wtm_at "dz") => `(tactic| (with_reducible apply Dz.nx; · wtm_at "st"))
local macro_rules | `(tactic| wtm_at "di") => `(tactic| (with_reducible apply Dz.ite; · wtm_at "ev"))

/-! ### the state of the draws: what is left of the script, a seed -/
structure DS where
  cells : List Int
  seed : Int
  ok : 0 ≤ seed ∧ seed ≤ 2147483647
def stH (s : DS) : List D := [.lst (s.cells.map D.int), .lst [.ref 0, .int s.seed]]
/-- .. more behind it -/
def stT (s : DS) (tl : List D) : List D := .lst (s.cells.map D.int) :: .lst [.ref 0, .int s.seed] :: tl
def dropZ : List Int → List Int
  | [] => []
  | c :: cs => if c = 0 then dropZ cs else c :: cs
def mixed (s : DS) : Int := (s.seed * 48271 + 12345) % 2147483647
theorem mixed_ok (s : DS) : 0 ≤ mixed s ∧ mixed s ≤ 2147483647 := by
  unfold mixed
  omega
def drawV (s : DS) (many : Int) : Int := match dropZ s.cells with
  | c :: _ => c % many
  | [] => (mixed s / 64) % many
def drawS (s : DS) (many : Int) : DS := match dropZ s.cells with
  | c :: cs => ⟨c / many :: cs, s.seed, s.ok⟩
  | [] => ⟨[], mixed s, mixed_ok s⟩
theorem drawV_nn (s : DS) {many : Int} (h : 0 < many) : 0 ≤ drawV s many := by
  unfold drawV
  split <;> exact Int.emod_nonneg _ (by omega)
theorem drawV_lt (s : DS) {many : Int} (h : 0 < many) : drawV s many < many := by
  unfold drawV
  split <;> exact Int.emod_lt_of_pos _ h
namespace Dr
noncomputable section
def lp_law_draw1 : C := (C.drop (E.chg U.popAt (E.var 2) [(E.c (.int 0))]))
@[reducible] def st_law_draw_1 : C := (C.set 2 (E.op O.ix (E.var 0) (E.c (.int 0))))
@[reducible] def st_law_draw_2 : C := (C.whl (T.and (T.val (E.op O.gt (E.blt F.len [(E.var 2)]) (E.c (.int 0)))) (T.val (E.op O.eq (E.op O.ix (E.var 2) (E.c (.int 0))) (E.c (.int 0))))) lp_law_draw1)
@[reducible] def st_law_draw_3 : C := (C.ite (T.val (E.op O.gt (E.blt F.len [(E.var 2)]) (E.c (.int 0)))) (C.seq (C.set 3 (E.op O.ix (E.var 2) (E.c (.int 0)))) (C.seq (C.setIx (E.var 2) (E.c (.int 0)) (E.op O.div (E.var 3) (E.var 1))) (C.ret (E.op O.mod (E.blt F.int1 [(E.var 3)]) (E.var 1))))) C.skip)
@[reducible] def st_law_draw_4 : C := (C.set 4 (E.op O.mod (E.blt F.int1 [(E.op O.add (E.op O.mul (E.op O.ix (E.var 0) (E.c (.int 1))) (E.c (.int 48271))) (E.c (.int 12345)))]) (E.c (.int 2147483647))))
@[reducible] def st_law_draw_5 : C := (C.setIx (E.var 0) (E.c (.int 1)) (E.var 4))
@[reducible] def st_law_draw_6 : C := (C.ret (E.op O.mod (E.blt F.int1 [(E.op O.div (E.var 4) (E.c (.int 64)))]) (E.var 1)))
def b_law_draw : C := (C.seq st_law_draw_1 (C.seq st_law_draw_2 (C.seq st_law_draw_3 (C.seq st_law_draw_4 (C.seq st_law_draw_5 st_law_draw_6)))))
def m_law_draw : Fn := fn 5 2 b_law_draw
end
theorem lf_lenP {xs : List D} (z : Z) (x : D) (h : cont x z = some (false, xs)) : (T.val (E.op O.gt (E.blt F.len [E.c x]) (E.c (.int 0)))) z = some (decide (0 < xs.length), z) := by
  have e := tv (ev_gt (ev_blt1 (z := z) (ev_c (d := x)) (lf_len h)) (ev_c (d := .int 0)))
  rw [e]
  congr 2
  exact decide_eq_decide.mpr (by omega)
theorem whl_test {tl : List D} (cs : List Int) (sl : List Sl) (X : D) (h2 : sl[2]? = some (.val (.ref 0))) (b : Bool) (hb : b = match cs with | [] => false | c :: _ => decide (c = 0)) : (T.and (T.val (E.op O.gt (E.blt F.len [(E.var 2)]) (E.c (.int 0)))) (T.val (E.op O.eq (E.op O.ix (E.var 2) (E.c (.int 0))) (E.c (.int 0))))) ⟨sl, (.lst (cs.map D.int) :: X :: tl)⟩ = some (b, ⟨sl, (.lst (cs.map D.int) :: X :: tl)⟩) := by
  have e1 : (T.val (E.op O.gt (E.blt F.len [(E.var 2)]) (E.c (.int 0)))) ⟨sl, (.lst (cs.map D.int) :: X :: tl)⟩ = some (decide ((0 : Int) < ((cs.map D.int).length : Nat)), ⟨sl, (.lst (cs.map D.int) :: X :: tl)⟩) :=
    tv (ev_gt (ev_blt1 (ev_var h2) (lf_len rfl)) ev_c)
  subst hb
  cases cs with
  | nil => exact tt_and (q := false) e1 fun h => nomatch h
  | cons c cs =>
    have e2 : (T.val (E.op O.eq (E.op O.ix (E.var 2) (E.c (.int 0))) (E.c (.int 0)))) ⟨sl, (.lst ((c :: cs).map D.int) :: X :: tl)⟩ = some (decide (c = 0), ⟨sl, (.lst ((c :: cs).map D.int) :: X :: tl)⟩) :=
      tv (ev_eq (ev_ix (ev_var h2) ev_c rfl atI_zero) ev_c eqP_int)
    have e3 := tt_and e1 fun _ => e2
    have e4 : decide ((0 : Int) < (((c :: cs).map D.int).length : Nat)) = true := decide_eq_true (by simp)
    rw [e4, Bool.true_and] at e3
    exact e3
theorem while_ev {tl : List D} (cs : List Int) (sl : List Sl) (X : D) (h2 : sl[2]? = some (.val (.ref 0))) : st_law_draw_2 ⟨sl, (.lst (cs.map D.int) :: X :: tl)⟩ = some (.nx, ⟨sl, (.lst ((dropZ cs).map D.int) :: X :: tl)⟩) := by
  induction cs with
  | nil => exact whl_f (whl_test _ _ _ h2 _ rfl)
  | cons c cs ih =>
    by_cases hc : c = 0
    · subst hc
      have e3 : lp_law_draw1 ⟨sl, (.lst ((0 :: cs).map D.int) :: X :: tl)⟩ = some (.nx, ⟨sl, (.lst (cs.map D.int) :: X :: tl)⟩) := by
        unfold lp_law_draw1
        exact cs_drop (ev_chgR (ev_var h2) rfl (ev_args ev_c ev_args0 rfl) rfl popAt0)
      exact whl_t (whl_test _ _ _ h2 true (decide_eq_true rfl).symm) e3 ih
    · have e : dropZ (c :: cs) = c :: cs := if_neg hc
      rw [e]
      exact whl_f (whl_test _ _ _ h2 false (decide_eq_false hc).symm)
theorem draw_evT (tl : List D) (s : DS) {many : Int} {m : Nat} (h : 0 < many) (hm : Smn m many) (hb : m ≤ bigN) : m_law_draw [.ref 1, .int many] (stT s tl) = some (.int (drawV s many), stT (drawS s many) tl) := by
  unfold m_law_draw stT
  have hs := s.ok
  have hseed : Smn 64 s.seed := Smn.of (by omega)
  unfold drawV drawS
  have e0 : b_law_draw ⟨slots 5 [.ref 1, .int many], (.lst (s.cells.map D.int) :: .lst [.ref 0, .int s.seed] :: tl)⟩ = (C.seq st_law_draw_3 (C.seq st_law_draw_4 (C.seq st_law_draw_5 st_law_draw_6))) ⟨[.val (.ref 1), .val (.int many), .val (.ref 0), .no, .no], (.lst ((dropZ s.cells).map D.int) :: .lst [.ref 0, .int s.seed] :: tl)⟩ := by
    unfold b_law_draw
    refine cs_nx (z1 := ⟨[.val (.ref 1), .val (.int many), .val (.ref 0), .no, .no], (.lst (s.cells.map D.int) :: .lst [.ref 0, .int s.seed] :: tl)⟩) ?_ (cs_nx (while_ev s.cells _ _ rfl) rfl)
    exact cs_set (ev_ix (ev_var rfl) ev_c rfl rfl) rfl
  cases hd : dropZ s.cells with
  | cons c cs =>
    apply fn_rtH rfl
    rw [e0, hd]
    have e1 : (T.val (E.op O.gt (E.blt F.len [(E.var 2)]) (E.c (.int 0)))) ⟨[.val (.ref 1), .val (.int many), .val (.ref 0), .no, .no], (.lst ((c :: cs).map D.int) :: .lst [.ref 0, .int s.seed] :: tl)⟩ = some (true, ⟨[.val (.ref 1), .val (.int many), .val (.ref 0), .no, .no], (.lst ((c :: cs).map D.int) :: .lst [.ref 0, .int s.seed] :: tl)⟩) := by
      have e4 : decide ((0 : Int) < (((c :: cs).map D.int).length : Nat)) = true := decide_eq_true (by simp)
      rw [← e4]
      exact tv (ev_gt (ev_blt1 (ev_var rfl) (lf_len rfl)) ev_c)
    refine cs_rt (cs_iteT e1 ?_)
    refine cs_nx (cs_set (ev_ix (ev_var rfl) ev_c rfl atI_zero) rfl) ?_
    refine cs_nx (cs_setIxR (ev_div (ev_var rfl) (ev_var rfl) h hm hb) (ev_var rfl) ev_c rfl rfl (ds' := (c / many :: cs).map D.int) setAt0) ?_
    exact cs_ret (ev_mod (ev_blt1 (ev_var rfl) lf_int1) (ev_var rfl) h) rfl
  | nil =>
    apply fn_rtH rfl
    rw [e0, hd]
    refine cs_nx (cs_iteF (tv (p := false) (by exact ev_gt (ev_blt1 (ev_var rfl) (lf_len (ds := []) rfl)) ev_c)) cs_skip) ?_
    refine cs_nx (cs_set (ev_mod (ev_blt1 (ev_add (ev_mul (ev_ix (ev_var rfl) ev_c rfl rfl) ev_c hseed (Smn.nat (by decide)) (by decide) (by decide)) ev_c) lf_int1) ev_c (by decide)) rfl) ?_
    refine cs_nx (cs_setIxR (ev_var rfl) (ev_var rfl) ev_c rfl rfl rfl) ?_
    exact cs_ret (ev_mod (ev_blt1 (ev_div (ev_var rfl) ev_c (by decide) (Smn.nat (by decide)) (by decide)) lf_int1) (ev_var rfl) h) rfl
theorem draw_ev (s : DS) {many : Int} {m : Nat} (h : 0 < many) (hm : Smn m many) (hb : m ≤ bigN) : m_law_draw [.ref 1, .int many] (stH s) = some (.int (drawV s many), stH (drawS s many)) := draw_evT [] s h hm hb
noncomputable section
def lp_law_state1 : C := (C.set 1 (E.op O.mod (E.blt F.int1 [(E.op O.add (E.op O.mul (E.var 1) (E.c (.int 31))) (E.var 2))]) (E.c (.int 1000003))))
@[reducible] def st_law_state_2 : C := (C.for_ (I.seq (E.var 0)) (G.nm 2) lp_law_state1)
@[reducible] def st_law_state_3 : C := (C.ret (E.shr (N.disp [(E.shr (N.comp (I.seqC (E.var 0)) (G.nm 2) [2] (ret true) (E.blt F.abs [(E.var 2)]))), (E.op O.add (E.var 1) (E.c (.int 1)))])))
def b_law_state : C := (C.seq (C.set 1 (E.c (.int 7))) (C.seq st_law_state_2 st_law_state_3))
def m_law_state : Fn := fn 3 1 b_law_state
end
theorem loop_ev (it : It) (hk : it.chk = none) : ∀ (cs : List Int) (A : Sl) (a : Int) (X : Sl), 0 ≤ a → a ≤ 1000003 → N.isOwn (some X) = false → ∃ (a' : Int) (X' : Sl), 0 ≤ a' ∧ a' ≤ 1000003 ∧ N.isOwn (some X') = false ∧ C.loop it (G.nm 2) lp_law_state1 (cs.map D.int) ⟨[A, .val (.int a), X], []⟩ = some (.nx, ⟨[A, .val (.int a'), X'], []⟩)
  | [], A, a, X, h0, h1, hX => ⟨a, X, h0, h1, hX, loop_nil hk⟩
  | c :: cs, A, a, X, h0, h1, hX => by
    obtain ⟨a', X', h2, h3, h5, h4⟩ := loop_ev it hk cs A ((a * 31 + c) % 1000003) (.val (.int c)) (by omega) (by omega) rfl
    refine ⟨a', X', h2, h3, h5, loop_cons hk rfl (f := .nx) (z2 := ⟨[A, .val (.int ((a * 31 + c) % 1000003)), .val (.int c)], []⟩) ?_ h4⟩
    unfold lp_law_state1
    exact cs_set (ev_mod (ev_blt1 (ev_add (ev_mul (ev_var rfl) ev_c (Smn.of (by omega)) (Smn.nat (by decide)) (by decide) (by decide)) (ev_var rfl)) lf_int1) ev_c (by decide)) rfl
theorem comp_ev (cs : List Int) (A B X : Sl) (hX : N.isOwn (some X) = false) (hA : A = .val (.scr (cs.map D.int))) (hl : cs.length ≤ 63) : N.comp (I.seqC (E.var 0)) (G.nm 2) [2] (Mi.ret true) (E.blt F.abs [(E.var 2)]) ⟨[A, B, X], []⟩ = some ((cs.map fun i => if i < 0 then -i else i).map D.int, ⟨[A, B, X], []⟩) := by
  subst hA
  have hl2 : (cs.map D.int).length ≤ szl := by
    rw [List.length_map]
    exact Nat.le_trans hl (by decide)
  have e := ev_comp (g := G.nm 2) (vs := [2]) (tt := Mi.ret true) (te := E.blt F.abs [(E.var 2)]) (z := ⟨[.val (.scr (cs.map D.int)), B, X], []⟩) (ev_seqC (x := .scr (cs.map D.int)) (ev_var (n := 0) rfl) rfl) hl2 (by show (!N.isOwn (some X) && true) = true; rw [hX]; rfl)
    (comp_loop rfl (fun _ => true) (fun d => match d with | .int i => .int (if i < 0 then -i else i) | d => d) ⟨[.val (.scr (cs.map D.int)), B, .no], []⟩ (fun d hd => ?_) _ [] fun d hd => hd)
  · rw [e]
    have e2 : (cs.map fun i => if i < 0 then -i else i).map D.int = [] ++ ((cs.map D.int).filter fun _ => true).map (fun d => match d with | .int i => .int (if i < 0 then -i else i) | d => d) := by
      rw [List.filter_eq_self.mpr (fun _ _ => rfl), List.nil_append, List.map_map, List.map_map]
      rfl
    rw [e2]
    rfl
  · obtain ⟨i, hi, rfl⟩ := List.mem_map.mp hd
    refine ⟨⟨[.val (.scr (cs.map D.int)), B, .val (.int i)], []⟩, _, ⟨[.val (.scr (cs.map D.int)), B, .val (.int i)], []⟩, rfl, rfl, fun _ => ⟨?_, rfl⟩, fun _ => rfl, fun h => nomatch h⟩
    exact ev_blt1 (ev_var rfl) lf_abs
theorem state_ev (ns : List Int) (hl : ns.length ≤ 63) : ∃ s : DS, m_law_state [.scr (ns.map D.int)] [] = some (.ref 1, stH s) := by
  obtain ⟨a', X', h2, h3, h4⟩ := loop_ev ⟨ns.map D.int, none⟩ rfl ns (.val (.scr (ns.map D.int))) 7 .no (by decide) (by decide) rfl
  refine ⟨⟨ns.map fun i => if i < 0 then -i else i, a' + 1, by omega⟩, ?_⟩
  obtain ⟨hX, h4⟩ := h4
  unfold m_law_state
  apply fn_rtH rfl
  unfold b_law_state
  refine cs_nx (cs_set ev_c rfl) ?_
  refine cs_nx (cs_for (ev_seq (ev_var rfl) rfl) h4) ?_
  exact cs_ret (ev_shr (ev_disp (ev_args (ev_shr (comp_ev ns _ _ X' hX rfl hl)) (ev_args (ev_add (ev_var rfl) ev_c) ev_args0 rfl) rfl))) rfl
end Dr
end Mi

set_option Elab.async false
set_option linter.all false
set_option maxRecDepth 100000
/-! Mi, part X: sorted, repr. -/
namespace Mi
open PySem PySem.Spec PyProof.Rows L2 PySem.W
/-- the key of a thing that can be sorted by itself -/
def pk (d : D) : PyData := (O.toP d).getD .none
def alikeB (ps : List PyData) : Bool := ps.all fun p => ps.all fun q => alike p q
def headTup : PyData → Bool
  | .tuple (_ :: _) => true
  | _ => false
def noTup : PyData → Bool
  | .none => false
  | .tuple _ => false
  | _ => true
def sortB (ps : List PyData) : Bool := ps.all headTup || ps.all noTup
def srtOk (ps : List PyData) : Bool := alikeB ps && sortB ps && ps.all fun p => decide (p.depth ≤ 40)
theorem alikeB_ok {ps : List PyData} (h : alikeB ps = true) : AllAlike ps := fun d hd e he =>
  List.all_eq_true.mp (List.all_eq_true.mp h d hd) e he
theorem sortB_ok {ps : List PyData} (h : sortB ps = true) : PySem.W.Sortable ps := by
  unfold sortB at h
  rw [Bool.or_eq_true] at h
  rcases h with h | h
  · refine .inl fun d hd => ?_
    have q := List.all_eq_true.mp h d hd
    unfold headTup at q
    split at q
    · exact ⟨_, _, rfl⟩
    · cases q
  · refine .inr fun d hd => ?_
    have q := List.all_eq_true.mp h d hd
    constructor
    · intro e; subst e; cases q
    · intro xs e; subst e; cases q
/-- the sorted list, stable -/
def srt (k : D → PyData) (ds : List D) : List D := ds.mergeSort (dataLe false k)
def N.sorted (m : M D) : M (List D) := bnd m fun x z => match cont x z with
  | some (false, ds) => match O.toPs ds with
    | some ps => if ds.length ≤ szl ∧ srtOk ps = true then some (srt pk ds, z) else none
    | none => none
  | _ => none
theorem toPs_pk : ∀ {ds : List D} {ps : List PyData}, O.toPs ds = some ps → ps = ds.map pk
  | [], ps, h => by cases h; rfl
  | d :: ds, ps, h => by
    rw [O.toPs] at h
    split at h
    · rename_i a as h1 h2
      cases h
      rw [List.map_cons, ← toPs_pk h2]
      unfold pk
      rw [h1]
      rfl
    · cases h
/-! the rule over the hand layer's heap -/
def rSrt (K : PySem.W.Frag) : List V → Hp → VK → Prop := fun vs H Q => ∃ (a : Addr) (xs : List V) (ds : List D) (T : V → D → Prop), vs = [V.ref a] ∧ SqL K H a xs ∧ EachIs (fun x d => Dp K H x (pk d) ∧ T x d) xs ds ∧
  AllAlike (ds.map pk) ∧ PySem.W.Sortable (ds.map pk) ∧ (∀ d ∈ ds, (pk d).depth ≤ 40) ∧ ∀ ys p, EachIs T ys (srt pk ds) → H p = none → Q (.ref p) (upd H p (.lst ys))
theorem each_raw {T : V → D → Prop} {S : Value → D → Prop} (f : ∀ x d u, T x d → RelV x u → S u d) : ∀ {xs : List V} {us : List Value} {ds : List D}, Vals xs us → EachIs T xs ds → EachIs S us ds
  | _, _, _, .nil, .nil => .nil
  | _, _, _, .cons r rs, .cons t ts => .cons (f _ _ _ t r) (each_raw f rs ts)
theorem each_abs {T : V → D → Prop} : ∀ {us : List Value} {ds : List D}, EachIs (fun u d => ∃ x, RelV x u ∧ T x d) us ds → ∃ xs, Vals xs us ∧ EachIs T xs ds
  | _, _, .nil => ⟨[], .nil, .nil⟩
  | _, _, .cons ⟨x, r, t⟩ h => by
    obtain ⟨xs, rs, ts⟩ := each_abs h
    exact ⟨x :: xs, .cons r rs, .cons t ts⟩
section
variable {X : Cx} {Tb : Tbs}
theorem call_srt (hu : X.A.units + 64 < cLine) : CallR X (.builtin "sorted") (rSrt X.K) := by
  intro pn st sg Hh args raws Qq Iv rr hyp
  obtain ⟨a, xs, ds, T, rfl, hs, ea, hal, hso, hdp, q⟩ := hyp
  obtain ⟨its, rv, hl, hz⟩ := Iv.list hs
  rw [Vals.ref1 rr]
  have e1 : EachIs (fun u d => ∃ x, RelV x u ∧ T x d) its ds := each_raw (fun x d u t r => ⟨x, r, t.2⟩) rv ea
  have e2 : EachIs (fun u d => ∃ as, Reads st.heap u (pk d) as) its ds := each_raw (fun x d u t r => Dp.reads Iv (pk d) x u t.1 r) rv ea
  have lz : ds.length ≤ sizeLine := by rw [← ea.length]; exact hz
  refine PySem.W.sorted_data hl.isList e1 e2 hal hso lz (fun d hd => ?_) fun out hlen eo => ?_
  · have := hdp d hd; omega
  · obtain ⟨ys, ry, ey⟩ := each_abs eo
    obtain ⟨ep, hat⟩ := PyProof.Rows.sortedAll_at st.heap its (List.toArray out)
    have yl : ys.length ≤ sizeLine := by rw [ry.length, hlen]; exact lz
    exact ⟨.ref _, upd Hh (st.heap.objs.size + 1) (.lst ys), Iv.laid (t' := st.toks) (fun _ _ => PyProof.Rows.sortedAll_old) (Nat.le_succ _) ⟨yl, out, ep, ry, hat⟩, rfl, q _ _ ey (Iv.hok.fresh (Nat.le_succ _))⟩
theorem each_rps {K : Kx} {F : Hp} {rho : List Addr} : ∀ {ys : List V} {ds : List D}, EachIs (fun v d => Rp K F rho d v) ys ds → Rps K F rho ds ys
  | _, _, .nil => .nil
  | _, _, .cons h t => .cons h (each_rps t)
theorem rps_each {K : Kx} {F H : Hp} {rho : List Addr} (e : Same F H) : ∀ {ds : List D} {xs : List V} {ps : List PyData}, O.toPs ds = some ps → Rps K F rho ds xs → EachIs (fun x d => Dp K H x (pk d) ∧ Rp K F rho d x) xs ds
  | [], _, ps, _, .nil => .nil
  | d :: ds, _, ps, h, .cons r rs => by
    rw [O.toPs] at h
    split at h
    · rename_i a as h1 h2
      refine .cons ⟨?_, r⟩ (rps_each e h2 rs)
      unfold pk
      rw [h1]
      exact toP_ok e h1 r
    · cases h
theorem mf_sorted {p pos : Pos} {e : Expr} {m : M D} (hu : X.A.units + 64 < cLine) (hg : Gl X "sorted") (hm : X.mg "sorted" = none) (ha : PE X e (Te (kx X Tb) m)) (hv : bootBuiltins "sorted" = some (.builtin "sorted") := by decide +kernel)
    (he : starEach [e] X.env = (false, eval e X.env) :: starEach [] X.env := by rfl) (hpl : (backTo pos (starEach [] X.env)).any (·.1) = false := by rfl) : PE X (.Call (.Name "sorted" p) [e] [] pos) (Tf (kx X Tb) (N.sorted m)) := by
  refine pe_imp (pe_callB (call_srt hu) hg hm hv (pa_cons ha pa_nil he) (by decide) (by decide) he hpl) fun σ H Q ⟨B, F, rho, om, z, g⟩ => ?_
  refine (g.bnd.imp fun _ _ H1 _ _ v _ _ _ _ _ ⟨F2, rho2, z2, x, eg1, s1, p1, r1, g1⟩ => ?_).tx (R := rV (kx X Tb))
  obtain ⟨R, d, z4, e, k⟩ := g1
  dsimp only at e
  split at e
  · rename_i ds hc
    split at e
    · rename_i ps hp
      split at e
      · rename_i c
        cases e
        obtain ⟨a, xs, rfl, q, h⟩ := cont_ok R r1 hc
        obtain ⟨c1, c2⟩ := c
        unfold srtOk at c2
        rw [Bool.and_eq_true, Bool.and_eq_true] at c2
        rw [toPs_pk hp] at c2
        refine ⟨a, xs, ds, fun v d => Rp (kx X Tb) F2 rho2 d v, rfl, ?_, rps_each R.rh.fro hp q, alikeB_ok c2.1.1, sortB_ok c2.1.2, fun d hd => ?_, fun ys l ey hl => ?_⟩
        · rcases h with ⟨_, h⟩ | ⟨h, _⟩
          · exact h
          · cases h
        · exact of_decide_eq_true (List.all_eq_true.mp c2.2 _ (List.mem_map_of_mem hd))
        · obtain ⟨R2, f2⟩ := R.new (o := .lst ys) hl
          exact k F2 rho2 _ _ (Same.refl _) (List.prefix_refl _) R2 ⟨l, ys, rfl, upd_same, f2, each_rps ey⟩
      · cases e
    · cases e
  · cases e
/-! ### repr, outside any __repr__ -/
def rowP : PyData → Bool
  | .list _ => true
  | .tuple _ => true
  | _ => false
def rprOk (p : PyData) : Bool := rowP p && p.showable && !p.hasDict && decide (p.depth ≤ 40)
def F.repr : List D → Z → Option D
  | [x], z => match O.toP (O.snap x z) with
    | some p => if rprOk p = true ∧ p.shown.length ≤ sizeLine then some (.str p.shown) else none
    | none => none
  | _, _ => none
def rRpr (K : PySem.W.Frag) : List V → Hp → VK → Prop := fun vs H Q => ∃ (x : V) (p : PyData), vs = [x] ∧ Dp K H x p ∧ rprOk p = true ∧ p.shown.length ≤ sizeLine ∧ Q (.str p.shown) H
theorem call_rpr (hu : X.A.units + 64 < cLine) (gA : X.A.guards = some []) : CallR X (.builtin "repr") (rRpr X.K) := by
  intro pn st sg Hh args raws Qq Iv rr hyp
  obtain ⟨x, p, rfl, dp, c, hz, q⟩ := hyp
  obtain ⟨u, rfl, ru⟩ : ∃ u, raws = [u] ∧ RelV x u := by
    cases rr with
    | cons r1 r2 => cases r2; exact ⟨_, rfl, r1⟩
  obtain ⟨as, rd⟩ := Dp.reads Iv p x u dp ru
  unfold rprOk at c
  rw [Bool.and_eq_true, Bool.and_eq_true, Bool.and_eq_true] at c
  obtain ⟨⟨⟨c1, c2⟩, c3⟩, c4⟩ := c
  have c4 := of_decide_eq_true c4
  have nd : p.hasDict = false := by simpa using c3
  obtain ⟨a, rfl⟩ : ∃ a, u = Value.ref a := by
    cases dp with
    | lst _ _ => exact ⟨_, ru⟩
    | tup _ _ => exact ⟨_, ru⟩
    | non => cases c1
    | bl => cases c1
    | int => cases c1
    | str => cases c1
  refine repr_of_reads' rd c2 (PyData.noDict_hsm nd) gA (by omega) (fun _ _ z => z) (fun hp t tk keep => ?_) hz
  exact ⟨.str p.shown, Hh, Iv.kept keep, ⟨t, rfl⟩, q⟩
theorem f_repr (hu : X.A.units + 64 < cLine) (gA : X.A.guards = some []) : CallM X (.builtin "repr") F.repr := by
  refine ⟨_, call_rpr hu gA, ?_⟩
  intro Tb B F rho om z σ H xs vs d R r e Q k
  unfold Mi.F.repr at e
  split at e
  · obtain ⟨v, rfl, rv⟩ := rvs1 r
    split at e
    · rename_i p hp
      split at e
      · rename_i c
        cases e
        exact ⟨v, p, rfl, snap_ok R rv hp, c.1, c.2, k F H _ (Same.refl F) R (.pure (.str _))⟩
      · cases e
    · cases e
  · cases e
end
end Mi

set_option Elab.async false
set_option linter.all false
set_option maxRecDepth 100000
/-! Mi, part Y: the law's own def is called with nothing being shown (the guards are known to be none): repr may be asked in it. -/
namespace Mi
open PySem PySem.Spec PyProof.Rows L2 PySem.W
/-- the promise of a def at calls from outside any __repr__ -/
def GOk (P : Program) (w : World) (K : PySem.W.Frag) (mg : Str → Option Value) (base : Heap) (k : Nat) (f : Addr) (fd : FuncData) (ps : List Str) (sp : Sp) : Prop :=
  ∀ (A : Around) (env : List Env) (sh : Shared) (Hh : Hp) (ar : Args) (us : List Value) (xs : List V) (Qq : VK) (Ee : XK), A.guards = some [] → Room k A → Env0 P w K mg base A env sh Hh → BindsTo sh fd ar (ps.zip us) → Vals xs us →
    sp xs Hh Qq Ee → codeAny (model P w) A (.call (.ref f) ar) (CR CX0 env P w Hh sh Qq Ee) sh
section
variable {P : Program} {w : World} {K : PySem.W.Frag} {mg : Str → Option Value} {base : Heap}
theorem gok_of {x qual : Str} {st : Stmt} {f : Addr} {fd : FuncData} {N ps : List Str} {k : Nat} {sp : Sp} (F : Fun K x qual st f fd) (S : FnScope N ps (defScope st)) (len : ∀ xs Hh Qq Ee, sp xs Hh Qq Ee → xs.length = ps.length)
    (body : ∀ (cv : Value) (A : Around) (env : List Env) (sh : Shared) (Hh : Hp) (xs : List V) (Qq : VK) (Ee : XK), A.guards = some [] → Room k (A.deeper (envOfC qual (defScope st) sh.heap.objs.size f cv)) → sp xs Hh Qq Ee →
      ∃ t, PSs (cxOf CX0 P w K mg base N qual (defScope st) f cv A env sh Hh Ee).nox (defBody st) t ∧ t { nx := fun _ H2 => Qq .non H2, rt := Qq } (start N xs) Hh) : GOk P w K mg base (k + 1) f fd ps sp := by
  obtain ⟨c1, c2, c3, c4, c5, c6, cv, c7, c8, rfl, lk, hcd⟩ := F.ex
  intro A env sh Hh ar us xs Qq Ee gA room e0 bd rx hsp
  have xl := len _ _ _ _ hsp
  have kin : K.In sh.heap := e0.mod.kin.keeps fun p u q => (e0.bs p u q).1
  have lim : sh.heap.NoLimit := e0.mod.nolimit.keeps fun p u q => (e0.bs p u q).1
  have kinds : ∀ y ∈ ps.zip us, (defScope st).names.lookup y.1 = some .local ∨ ((defScope st).names.lookup y.1 = some .cell ∧ ((cellsFrom (sh.heap.objs.size + 1) (defScope st).names []).lookup y.1).isSome = true) := by
    rintro ⟨nm, vv⟩ hy
    have hm := (List.of_mem_zip hy).1
    cases S.par nm hm with
    | inl l => exact Or.inl l
    | inr c => exact Or.inr ⟨c, PySem.W.cellsFrom_some _ _ _ (Or.inl c)⟩
  apply codeAny_call_function room.depth (kin _ _ lk) rfl S.co S.gen rfl (PySem.W.codeRec_of kin hcd) (bd _ _ _ _ ?_)
  apply wpAny_newFunctionEnv_cells S.kind kinds
  intro en hen s2 xx
  subst hen
  refine And.intro (lim.keeps xx.toInCall.keep) (codeAny_func ?_)
  obtain ⟨t, pt, tq⟩ := body cv A env sh Hh xs Qq Ee gA (room.deeper _) hsp
  have Iv : Inv (cxOf CX0 P w K mg base N qual (defScope st) f cv A env sh Hh Ee) [] (start N xs) Hh s2 := inv_start S room.hd e0 xl rx xx
  apply wpAny_mono (pt.nox.run [] s2 (start N xs) Hh _ Iv tq) ?_ (fun _ _ q => q)
  intro fl s3 hs
  have done : ∀ {sg2 : L2.St} {H2 : Hp} {v : V} {u : Value}, Inv (cxOf CX0 P w K mg base N qual (defScope st) f cv A env sh Hh Ee) [] sg2 H2 s3 → RelV v u → Qq v H2 → CE env P w Hh sh Qq u s3 := by
    intro sg2 H2 v u J rv q
    exact ⟨v, H2, J.os, J.bare, J.base, J.hok, rv, q⟩
  match fl, hs with
  | .ret u, ⟨v, sg2, H2, J, rv, q⟩ => exact done J rv q
  | .next, ⟨sg2, H2, J, q⟩ => exact done (v := V.non) (u := Value.none) J rfl q
  | .brk, ⟨_, _, _, q⟩ => exact q.elim
  | .cont, ⟨_, _, _, q⟩ => exact q.elim
end
/-- a def by its body, where the body may ask for a repr -/
theorem fn_gok {P : Program} {w : World} {K : Kx} {mg : Str → Option Value} {base : Heap} {x qual : Str} {st : Stmt} {f : Addr} {fd : FuncData} {N ps : List Str} {k n kk : Nat} {b : C} (F : Fun K x qual st f fd) (S : FnScope N ps (defScope st)) (hn : N.length = n) (hk : ps.length = kk)
    (hb : ∀ (cv : Value) (A : Around) (env : List Env) (sh : Shared) (Hh : Hp) (Ee : XK), A.guards = some [] → Room k (A.deeper (envOfC qual (defScope st) sh.heap.objs.size f cv)) → PSs (cxOf CX0 P w K mg base N qual (defScope st) f cv A env sh Hh Ee).nox (defBody st) (Ts K b)) :
    GOk P w K mg base (k + 1) f fd ps (spM kk K (fn n kk b)) := by
  intro A env sh Hh ar us xs Qq Ee gA room e0 bd rx hsp
  have G : GOk P w K mg base (k + 1) f fd ps (spM kk K (fn n kk b)) := by
    subst hn hk
    refine gok_of F S (fun _ _ _ _ q => q.1) fun cv A env sh Hh xs Qq Ee gA room hsp => ⟨_, hb cv A env sh Hh Ee gA room, ?_⟩
    exact fn_body S hsp
  exact G A env sh Hh ar us xs Qq Ee gA room e0 bd rx hsp
/-- the law's tables of code objects, as the head leaves them: code object, table, the code's name -/
structure Cs where
  c : Addr
  p : Addr
  q : Str
def tbs (cs : List Cs) : List (Addr × Str) := cs.map fun z => (z.p, z.q)
/-- at the head's end -/
structure CsOk (K : PySem.W.Frag) (hp : Heap) (cs : List Cs) : Prop where
  tab : ∀ z ∈ cs, hp.get? z.p = some (PySem.W.tabObj #[])
  notK : ∀ z ∈ cs, K.lookup z.p = none
  code : ∀ z ∈ cs, PySem.W.CodeHd hp z.c z.p
  one : ∀ z ∈ cs, ∀ y ∈ cs, z.p = y.p → z.q = y.q
theorem CsOk.nil {K : PySem.W.Frag} {hp : Heap} : CsOk K hp [] := ⟨(fun _ h => nomatch h), (fun _ h => nomatch h), (fun _ h => nomatch h), fun _ h => nomatch h⟩
/-- the main module's namespace of built-ins -/
def BMain (mg : Str → Option Value) (hp : Heap) : Prop := ∃ (bm : Addr) (ob : Obj), mg "__builtins__" = some (.ref bm) ∧ bm ≠ builtinsNs ∧ hp.get? bm = some ob ∧ ob.cls = .type "module" ∧ ob.dict = some builtinsNs ∧ ob.data = .plain
/-- the law's row at its call; the heap Hh in which at most the script and the tables are seen -/
theorem row_at {P : Program} {w : World} {K : PySem.W.Frag} {mg mb : Str → Option Value} {k : Nat} {fa a : Addr} {fd : FuncData} {x : Str} {sp : Sp} {sh : Shared} {us : List Value} {Hh : Hp} {cs : List Cs}
    (kin : K.In sh.heap) (nm : sh.heap.Ns mainGlobals mg) (nb : sh.heap.Ns builtinsNs mb) (nbb : ∀ y : Str, y ≠ "__name__" → mb y = bootBuiltins y) (lim : sh.heap.NoLimit) (gens : sh.gens = #[]) (ck : CsOk K sh.heap cs) (bmn : BMain mg sh.heap)
    (scr : sh.heap.get? a = some { cls := .type "list", data := .seq us.toArray }) (room : Room k callerA)
    (F : ∀ base : Heap, K.In base → base.Ns mainGlobals mg → (∀ z ∈ cs, LamX.TabB base mg z.c z.p) → GOk P w K mg base k fa fd [x] sp) (bind : ∀ (s2 : Shared) (u : Value), BindsTo s2 fd ⟨[u], []⟩ [(x, u)])
    (only : ∀ b, Hh b = none ∨ (∃ z ∈ cs, z.p = b) ∨ ∃ ob ys, Hh b = some (.frz ob ys)) (hok : HOk P w Hh sh.heap) (seen : ∀ b, Hh b ≠ none → b = a ∨ ∃ z ∈ cs, z.p = b) (new : Hh a ≠ none → K.lookup a = none) (hT : ∀ z ∈ cs, Hh z.p = some (.tbl #[])) (pr : sp [.ref a] Hh (fun v _ => v = .bl true) fun _ _ _ => False) :
    codeAny (model P w) callerA (.call (.ref fa) ⟨[.ref a], []⟩) (fun rs s2 => rs = .ok (.ret (.bool true)) ∧ OldK sh.heap s2.heap ∧ s2.os = sh.os ∧ AllBare s2.gens) sh := by
  have keeps : ∀ {b : Addr} {o : Obj}, sh.heap.get? b = some o → (∀ ys m, o.data ≠ .seq ys m) → o.data ≠ .fields #[] → (hidT sh.heap Hh).get? b = some o := by
    intro b o p n1 n2
    refine hidT_get p ?_
    cases hb : Hh b with
    | none => rfl
    | some u =>
      rcases seen b (by rw [hb]; exact Option.some_ne_none u) with rfl | ⟨z, hz, rfl⟩
      · rw [scr] at p
        cases p
        exact (n1 _ _ rfl).elim
      · rw [ck.tab z hz] at p
        cases p
        exact (n2 rfl).elim
  have nsHid : ∀ {b : Addr} {m : Str → Option Value}, sh.heap.Ns b m → (hidT sh.heap Hh).Ns b m := by
    rintro b m ⟨o, es, ep, p, dd, rr⟩
    exact ⟨o, es, ep, keeps p (fun ys n c => by rw [dd] at c; cases c) (fun c => by rw [dd] at c; cases c), dd, rr⟩
  have kinHid : K.In (hidT sh.heap Hh) := by
    intro b o lk
    refine hidT_get (kin b o lk) ?_
    cases hb : Hh b with
    | none => rfl
    | some u =>
      rcases seen b (by rw [hb]; exact Option.some_ne_none u) with rfl | ⟨z, hz, rfl⟩
      · rw [new (by rw [hb]; exact Option.some_ne_none u)] at lk
        cases lk
      · rw [ck.notK z hz] at lk
        cases lk
  have md : Mod K mg (hidT sh.heap Hh) := by
    refine ⟨kinHid, nsHid nm, ⟨mb, nsHid nb, nbb⟩, ?_⟩
    obtain ⟨mc, l1, l2⟩ := lim
    exact ⟨mc, nsHid l1, l2⟩
  have tb : ∀ z ∈ cs, LamX.TabB (hidT sh.heap Hh) mg z.c z.p := by
    intro z hz
    have hP := ck.tab z hz
    refine ⟨?_, ?_, fun c => ?_⟩
    · obtain ⟨o, fs, fl, t1, g1, t2, i1, x1, t3, q0, q1, q2, q3, qs⟩ := ck.code z hz
      refine ⟨o, fs, fl, t1, g1, t2, i1, x1, t3, keeps q0 (fun ys n c => by rw [q2] at c; cases c) (fun c => ?_), q1, q2, q3, qs⟩
      rw [q2] at c
      cases c
      simp at q3
    · obtain ⟨bm, ob, q1, q2, q3, q4, q5, q6⟩ := bmn
      refine ⟨bm, ob, q1, q2, fun c => ?_, fun c => ?_, keeps q3 (fun ys n c => by rw [q6] at c; cases c) (fun c => by rw [q6] at c; cases c), q4, q5, q6⟩
      · obtain ⟨o, es, ep, p, dd, _⟩ := nm
        rw [c, p] at q3
        cases q3
        rw [dd] at q6
        cases q6
      · rw [c, hP] at q3
        cases q3
        cases q6
    · obtain ⟨o, es, ep, p, dd, _⟩ := nm
      rw [c, hP] at p
      cases p
      cases dd
  have e0 : Env0 P w K mg (hidT sh.heap Hh) callerA [] sh Hh :=
    { frames := rfl, mod := md, bs := fun _ _ p => of_hidT p, bsz := Nat.le_of_eq (hidT_size _ _), funs := trivial, frf := fun b hb => absurd hb List.not_mem_nil, hok := hok, bare := .of_eq gens }
  have run := F _ kinHid (nsHid nm) tb callerA [] sh Hh ⟨[.ref a], []⟩ [.ref a] [.ref a] _ _ rfl room e0 (bind sh (.ref a)) (.cons rfl .nil) pr
  apply codeAny_mono run
  intro rs s2 hr
  match rs, hr with
  | .error e, hr => exact False.elim hr
  | .ok .next, hr => exact False.elim hr
  | .ok .brk, hr => exact False.elim hr
  | .ok .cont, hr => exact False.elim hr
  | .ok (.ret u), ⟨v, H2, os, bare, un, hok2, rv, q⟩ =>
    have q : v = .bl true := q
    subst q
    have rv : u = Value.bool true := rv
    subst rv
    have grow : ∀ z ∈ cs, ∃ vs : Array Value, s2.heap.get? z.p = some (PySem.W.tabObj vs) := by
      intro z hz
      obtain ⟨vs, e⟩ := un.tbls z.p #[] (hT z hz)
      exact ⟨_, hok2 z.p _ e⟩
    have same : ∀ {b : Addr} {o : Obj}, (¬ ∃ z ∈ cs, z.p = b) → sh.heap.get? b = some o → s2.heap.get? b = some o := by
      intro b o nz p
      rcases only b with c | c | ⟨ob, ys, c⟩
      · exact un.keep b o p c (fun z => absurd z List.not_mem_nil) List.not_mem_nil
      · exact absurd c nz
      · have p1 := (hok b _ c).1
        have p2 := (hok2 b _ (un.frzs b ob _ c)).1
        rw [p] at p1
        cases p1
        exact p2
    refine ⟨rfl, ⟨fun b o p => ?_, fun b o p => ?_⟩, os, bare⟩
    · by_cases c : ∃ z ∈ cs, z.p = b
      · obtain ⟨z, hz, rfl⟩ := c
        obtain ⟨vs, e⟩ := grow z hz
        rw [ck.tab z hz] at p
        cases p
        exact .inr (.inl ⟨((ck.code z hz).tab (ck.tab z hz)).isCodeTable, rfl, #[], vs, rfl, by simpa using e⟩)
      · exact .inl (same c p)
    · by_cases c : ∃ z ∈ cs, z.p = b
      · obtain ⟨z, hz, rfl⟩ := c
        obtain ⟨vs, e⟩ := grow z hz
        exact ⟨_, e⟩
      · exact ⟨o, same c p⟩
theorem row_call {P : Program} {w : World} {K : PySem.W.Frag} {mg mb : Str → Option Value} {k : Nat} {fa a : Addr} {fd : FuncData} {x : Str} {sp : Sp} {sh : Shared} {us : List Value} {ns : List Int} {cs : List Cs}
    (kin : K.In sh.heap) (nm : sh.heap.Ns mainGlobals mg) (nb : sh.heap.Ns builtinsNs mb) (nbb : ∀ y : Str, y ≠ "__name__" → mb y = bootBuiltins y) (lim : sh.heap.NoLimit) (gens : sh.gens = #[]) (ck : CsOk K sh.heap cs) (bmn : BMain mg sh.heap)
    (scr : sh.heap.get? a = some { cls := .type "list", data := .seq us.toArray }) (iar : IntsAre us ns) (short : ns.length ≤ sizeLine) (room : Room k callerA)
    (F : ∀ base : Heap, K.In base → base.Ns mainGlobals mg → (∀ z ∈ cs, LamX.TabB base mg z.c z.p) → GOk P w K mg base k fa fd [x] sp) (bind : ∀ (s2 : Shared) (u : Value), BindsTo s2 fd ⟨[u], []⟩ [(x, u)])
    (pr : ∀ Hh : Hp, (∀ z ∈ cs, Hh z.p = some (.tbl #[])) → SqL K Hh a (ns.map V.int) → sp [.ref a] Hh (fun v _ => v = .bl true) fun _ _ _ => False) :
    codeAny (model P w) callerA (.call (.ref fa) ⟨[.ref a], []⟩) (fun rs s2 => rs = .ok (.ret (.bool true)) ∧ OldK sh.heap s2.heap ∧ s2.os = sh.os ∧ AllBare s2.gens) sh := by
  have rv := L2.vals_ints iar
  have nl : (ns.map V.int).length ≤ sizeLine := by rw [List.length_map]; exact short
  have aT : ¬ ∃ z ∈ cs, z.p = a := by
    rintro ⟨z, hz, rfl⟩
    have := ck.tab z hz
    rw [scr] at this
    cases this
  classical
  cases hk : K.lookup a with
  | some o =>
    have p := kin a o hk
    rw [scr] at p
    cases p
    have ul : us.toArray.size ≤ sizeLine := by rw [List.size_toArray, iar.length]; exact short
    have rv2 : Vals (ns.map V.int) us.toArray.toList := by simpa using rv
    let Ht : Hp := fun b => if ∃ z ∈ cs, z.p = b then some (.tbl #[]) else none
    have hT : ∀ z ∈ cs, Ht z.p = some (.tbl #[]) := fun z hz => if_pos ⟨z, hz, rfl⟩
    have off : ∀ {b : Addr}, (¬ ∃ z ∈ cs, z.p = b) → Ht b = none := fun c => if_neg c
    refine row_at (cs := cs) kin nm nb nbb lim gens ck bmn scr room F bind (Hh := Ht) (fun b => ?_) (fun b u e => ?_) (fun b e => ?_) (fun e => absurd (off aT) e) hT (pr _ hT (.inr ⟨_, us.toArray, _, hk, rfl, rfl, rfl, ul, rv2⟩))
    · by_cases c : ∃ z ∈ cs, z.p = b
      · exact .inr (.inl c)
      · exact .inl (off c)
    · by_cases c : ∃ z ∈ cs, z.p = b
      · obtain ⟨z, hz, rfl⟩ := c
        rw [hT z hz] at e
        cases e
        exact ck.tab z hz
      · rw [off c] at e
        cases e
    · by_cases c : ∃ z ∈ cs, z.p = b
      · exact .inr c
      · exact absurd (off c) e
  | none =>
    let Hs : Hp := fun b => if b = a then some (.frz { cls := .type "list", data := .seq us.toArray } (.lst (ns.map V.int))) else if ∃ z ∈ cs, z.p = b then some (.tbl #[]) else none
    have atA : Hs a = some (.frz { cls := .type "list", data := .seq us.toArray } (.lst (ns.map V.int))) := if_pos rfl
    have hT : ∀ z ∈ cs, Hs z.p = some (.tbl #[]) := fun z hz => (if_neg fun c => aT ⟨z, hz, c⟩).trans (if_pos ⟨z, hz, rfl⟩)
    have off : ∀ {b : Addr}, b ≠ a → (¬ ∃ z ∈ cs, z.p = b) → Hs b = none := fun n c => (if_neg n).trans (if_neg c)
    refine row_at (cs := cs) kin nm nb nbb lim gens ck bmn scr room F bind (Hh := Hs) (fun b => ?_) (fun b u e => ?_) (fun b e => ?_) (fun _ => hk) hT (pr Hs hT (.inl (.inr ⟨_, atA⟩)))
    · by_cases hb : b = a
      · subst hb; exact .inr (.inr ⟨_, _, atA⟩)
      · by_cases c : ∃ z ∈ cs, z.p = b
        · exact .inr (.inl c)
        · exact .inl (off hb c)
    · by_cases hb : b = a
      · subst hb
        rw [atA] at e
        cases e
        exact ⟨scr, nl, us, _, rv, scr⟩
      · by_cases c : ∃ z ∈ cs, z.p = b
        · obtain ⟨z, hz, rfl⟩ := c
          rw [hT z hz] at e
          cases e
          exact ck.tab z hz
        · rw [off hb c] at e
          cases e
    · by_cases hb : b = a
      · exact .inl hb
      · by_cases c : ∃ z ∈ cs, z.p = b
        · exact .inr c
        · exact absurd (off hb c) e
/-- the end of a law's row -/
theorem walkT {l : PySem.W.OpenLaw} {k : Nat} {q : Program} {loose : List Str} {XP : (Str → Option Value) → Heap → Prop} {YP : World → Heap → Prop} {d : DefRec} {K : Params → PySem.W.Frag} {x : Str} {mf : Fn} (most : l.most = some 63) (nodef : d.params.defaults = []) (room : Room k callerA)
    (inY : ∀ (w : World) (hp : Heap), YP w hp → (K w.params).In hp)
    (F : ∀ (w : World) (mg : Str → Option Value) (fa : Addr) (hp : Heap), YP w hp → (K w.params).In hp → hp.Ns mainGlobals mg → mg d.name = some (.ref fa) →
      ∃ (fd : FuncData) (cs : List Cs) (cl : List (Str × Addr)), CsOk (K w.params) hp cs ∧ (∀ (sh : Shared) (u : Value), BindsTo sh fd ⟨[u], []⟩ [(x, u)]) ∧ ∀ base : Heap, (K w.params).In base → base.Ns mainGlobals mg → (∀ z ∈ cs, LamX.TabB base mg z.c z.p) → GOk l.prog w (K w.params) mg base k fa fd [x] (spM 1 ⟨K w.params, ⟨tbs cs, cl⟩⟩ mf))
    (law : ∀ ns : List Int, ns.length ≤ 63 → ∃ h', mf [.scr (ns.map D.int)] [] = some (.bl true, h')) : PySem.W.WalkO q loose XP YP l.row.toRowW d [] (fun f vs => PySem.call f vs) := by
  apply Att.attach_call most nodef
  intro w s0 s1 mg mb fa o pm cd doc a us ns G Y ho hd hcd hmg scr iar short gens
  have kin := inY w _ Y
  obtain ⟨fd, cs, cl, ck, hb, hF⟩ := F w mg fa _ Y kin G.T.g hmg
  refine row_call kin G.T.g G.T.b G.T.builtins G.T.nolimit gens ck G.T.bmain scr iar (Nat.le_trans short (by decide)) room hF hb fun Hh hT sq => ?_
  obtain ⟨h2, e⟩ := law ns short
  have rh : Rh ⟨K w.params, ⟨tbs cs, cl⟩⟩ (fun b => if ∃ z ∈ cs, z.p = b then none else Hh b) [] [] Hh := by
    classical
    refine ⟨fun b o e => ?_, rfl, (fun _ _ _ h => by simp at h), (fun _ _ _ h => by simp at h), (fun _ _ h => by simp at h), ⟨fun p hp => ?_, fun p hp y hy c => ?_, fun p hp => ?_⟩, fun _ _ _ h => by simp at h⟩
    · split at e
      · cases e
      · exact e
    · obtain ⟨z, hz, rfl⟩ := List.mem_map.mp hp
      refine ⟨#[], hT z hz, True.intro, fun pos cv hc => ?_⟩
      have hc : codeAmong pos [] = some cv := hc
      simp [codeAmong] at hc
    · obtain ⟨z, hz, rfl⟩ := List.mem_map.mp hp
      obtain ⟨z2, hz2, rfl⟩ := List.mem_map.mp hy
      exact ck.one z hz z2 hz2 c
    · obtain ⟨z, hz, rfl⟩ := List.mem_map.mp hp
      exact if_pos ⟨z, hz, rfl⟩
  have sq2 : SqL (K w.params) (fun b => if ∃ z ∈ cs, z.p = b then none else Hh b) a (ns.map V.int) := by
    have na : ¬ ∃ z ∈ cs, z.p = a := by
      rintro ⟨z, hz, rfl⟩
      have := ck.tab z hz
      rw [scr] at this
      cases this
    rcases sq with (sq | ⟨o, sq⟩) | sq
    · exact .inl (.inl ((if_neg na).trans sq))
    · exact .inl (.inr ⟨o, (if_neg na).trans sq⟩)
    · exact .inr sq
  exact ⟨rfl, _, [], [], [.scr (ns.map D.int)], rh, .one (.scr sq2 (.ints ns)), _, h2, e, fun _ _ _ v _ _ _ _ _ _ r => by cases r; rfl⟩
/-- .. where there is no table -/
theorem walkG {l : PySem.W.OpenLaw} {k : Nat} {q : Program} {loose : List Str} {XP : (Str → Option Value) → Heap → Prop} {YP : World → Heap → Prop} {d : DefRec} {K : Params → PySem.W.Frag} {x : Str} {mf : Fn} (most : l.most = some 63) (nodef : d.params.defaults = []) (room : Room k callerA)
    (inY : ∀ (w : World) (hp : Heap), YP w hp → (K w.params).In hp)
    (F : ∀ (w : World) (mg : Str → Option Value) (fa : Addr) (hp : Heap), (K w.params).In hp → hp.Ns mainGlobals mg → mg d.name = some (.ref fa) →
      ∃ (fd : FuncData) (cl : List (Str × Addr)), (∀ (sh : Shared) (u : Value), BindsTo sh fd ⟨[u], []⟩ [(x, u)]) ∧ ∀ base : Heap, (K w.params).In base → base.Ns mainGlobals mg → GOk l.prog w (K w.params) mg base k fa fd [x] (spM 1 ⟨K w.params, ⟨[], cl⟩⟩ mf))
    (law : ∀ ns : List Int, ns.length ≤ 63 → ∃ h', mf [.scr (ns.map D.int)] [] = some (.bl true, h')) : PySem.W.WalkO q loose XP YP l.row.toRowW d [] (fun f vs => PySem.call f vs) :=
  walkT most nodef room inY (fun w mg fa hp _ k1 k2 k3 => by
    obtain ⟨fd, cl, h1, h2⟩ := F w mg fa hp k1 k2 k3
    exact ⟨fd, [], cl, .nil, h1, fun base b1 b2 _ => h2 base b1 b2⟩) law
/-- a def's promise, as one from outside any __repr__ -/
theorem FnOk.g {P : Program} {w : World} {K : PySem.W.Frag} {mg : Str → Option Value} {base : Heap} {k : Nat} {f : Addr} {fd : FuncData} {ps : List Str} {sp : Sp} (h : FnOk P w K mg base CX0 k f fd ps sp) : GOk P w K mg base k f fd ps sp :=
  fun A env sh Hh ar us xs Qq Ee _ room e0 bd rx hsp => h.run A env sh Hh ar us xs Qq Ee room e0 bd rx hsp
end Mi

set_option Elab.async false
set_option linter.all false
set_option maxRecDepth 100000
/-! Mi, part Z: statements by what holds behind them. -/
namespace Mi
open PySem L2
/-- c runs to an end of which Φ holds -/
def Dz (c : C) (z : Z) (Φ : Fl → Z → Prop) : Prop := ∃ f z', c z = some (f, z') ∧ Φ f z'
section
variable {a b c : C} {z z1 : Z} {Φ Ψ : Fl → Z → Prop}
theorem Dz.of {f : Fl} (h : c z = some (f, z1)) (q : Φ f z1) : Dz c z Φ := ⟨f, z1, h, q⟩
theorem Dz.imp (h : Dz c z Ψ) (k : ∀ f z1, Ψ f z1 → Φ f z1) : Dz c z Φ := by
  obtain ⟨f, z1, e, q⟩ := h
  exact ⟨f, z1, e, k f z1 q⟩
theorem Dz.nx (h : a z = some (.nx, z1)) (k : Dz b z1 Φ) : Dz (C.seq a b) z Φ := by
  obtain ⟨f, z2, e, q⟩ := k
  exact ⟨f, z2, cs_nx h e, q⟩
theorem Dz.rt {d : D} (h : a z = some (.rt d, z1)) (q : Φ (.rt d) z1) : Dz (C.seq a b) z Φ := ⟨_, _, cs_rt h, q⟩
/-- behind a: on, or out -/
def onTo (b : C) (Φ : Fl → Z → Prop) : Fl → Z → Prop := fun f z => match f with
  | .nx => Dz b z Φ
  | f => Φ f z
theorem Dz.seq (h : Dz a z (onTo b Φ)) : Dz (C.seq a b) z Φ := by
  obtain ⟨f, z1, e, q⟩ := h
  cases f with
  | nx =>
    obtain ⟨f, z2, e2, q⟩ := (show Dz b z1 Φ from q)
    exact ⟨f, z2, cs_nx e e2, q⟩
  | rt d => exact ⟨_, _, cs_rt e, q⟩
  | bk => exact ⟨_, _, cs_bk e, q⟩
  | ct => exact ⟨_, _, cs_ct e, q⟩
/-- .. where a goes on -/
theorem Dz.thn {R : Z → Prop} (h : Dz a z fun f z1 => f = .nx ∧ R z1) (k : ∀ z1, R z1 → Dz b z1 Φ) : Dz (C.seq a b) z Φ := by
  refine Dz.seq (h.imp fun f z1 q => ?_)
  obtain ⟨rfl, q⟩ := q
  exact k z1 q
theorem Dz.ite {t : M Bool} {p : Bool} (h : t z = some (p, z1)) (hT : p = true → Dz a z1 Φ) (hF : p = false → Dz b z1 Φ) : Dz (C.ite t a b) z Φ := by
  cases p with
  | true =>
    obtain ⟨f, z2, e, q⟩ := hT rfl
    exact ⟨f, z2, cs_iteT h e, q⟩
  | false =>
    obtain ⟨f, z2, e, q⟩ := hF rfl
    exact ⟨f, z2, cs_iteF h e, q⟩
theorem Dz.skip (q : Φ .nx z) : Dz C.skip z Φ := ⟨_, _, cs_skip, q⟩
theorem Dz.brk (q : Φ .bk z) : Dz C.brk z Φ := ⟨_, _, rfl, q⟩
theorem Dz.cnt (q : Φ .ct z) : Dz C.cnt z Φ := ⟨_, _, rfl, q⟩
/-- the end of a turn -/
def turn (I : Z → Prop) (Φ : Fl → Z → Prop) : Fl → Z → Prop := fun f z => match f with
  | .nx => I z
  | .ct => I z
  | .bk => Φ .nx z
  | .rt d => Φ (.rt d) z
theorem Dz.loop {it : It} {g : G} (hk : it.chk = none) (I : List D → Z → Prop) (step : ∀ d ds z, I (d :: ds) z → ∃ z1, g.run d z = some z1 ∧ Dz b z1 (turn (I ds) Φ)) (fin : ∀ z, I [] z → Φ .nx z) : ∀ (ds : List D) (z : Z), I ds z → Dz (C.loop it g b ds) z Φ
  | [], z, h => ⟨_, _, loop_nil hk, fin z h⟩
  | d :: ds, z, h => by
    obtain ⟨z1, e1, f, z2, e2, q⟩ := step d ds z h
    cases f with
    | nx =>
      obtain ⟨f, z3, e3, q3⟩ := Dz.loop hk I step fin ds z2 q
      exact ⟨f, z3, loop_cons hk e1 e2 e3, q3⟩
    | ct =>
      obtain ⟨f, z3, e3, q3⟩ := Dz.loop hk I step fin ds z2 q
      exact ⟨f, z3, loop_cons hk e1 e2 e3, q3⟩
    | bk => exact ⟨_, _, loop_cons hk e1 e2 rfl, q⟩
    | rt d => exact ⟨_, _, loop_cons hk e1 e2 rfl, q⟩
theorem Dz.for_ {mi : M It} {it : It} {g : G} (h : mi z = some (it, z1)) (hk : it.chk = none) (I : List D → Z → Prop) (h0 : I it.items z1) (step : ∀ d ds z, I (d :: ds) z → ∃ z1, g.run d z = some z1 ∧ Dz b z1 (turn (I ds) Φ)) (fin : ∀ z, I [] z → Φ .nx z) : Dz (C.for_ mi g b) z Φ := by
  obtain ⟨f, z2, e, q⟩ := Dz.loop hk I step fin it.items z1 h0
  exact ⟨f, z2, cs_for h e, q⟩
theorem rg_len (a : Int) (n : Nat) : (I.irng a n).length = n := by unfold I.irng; rw [List.length_map, List.length_range]
theorem rg_get {a : Int} {n k : Nat} (h : k < n) : (I.irng a n)[k]? = some (.int (a + k)) := by
  unfold I.irng
  rw [List.getElem?_map, List.getElem?_range h]
  rfl
theorem drop_cons {α : Type} {l ds : List α} {d : α} {k : Nat} (h : l.drop k = d :: ds) : k < l.length ∧ l[k]? = some d ∧ ds = l.drop (k + 1) := by
  have h1 : k < l.length := by
    have := congrArg List.length h
    rw [List.length_drop, List.length_cons] at this
    omega
  rw [List.drop_eq_getElem_cons h1] at h
  injection h with h2 h3
  exact ⟨h1, by rw [List.getElem?_eq_getElem h1, h2], h3.symm⟩
/-- for over a range, by an invariant over the turns made -/
theorem Dz.rng {mi : M It} {g : G} {a : Int} {n : Nat} (h : mi z = some (⟨I.irng a n, none⟩, z1)) (I : Nat → Z → Prop) (h0 : I 0 z1) (step : ∀ k z, k < n → I k z → ∃ z1, g.run (.int (a + k)) z = some z1 ∧ Dz b z1 (turn (I (k + 1)) Φ)) (fin : ∀ z, I n z → Φ .nx z) : Dz (C.for_ mi g b) z Φ := by
  refine Dz.for_ h rfl (fun ds z => ∃ k, k ≤ n ∧ ds = (Mi.I.irng a n).drop k ∧ I k z) ⟨0, Nat.zero_le _, rfl, h0⟩ ?_ ?_
  · rintro d ds z ⟨k, hk, hd, hI⟩
    obtain ⟨h1, h2, h3⟩ := drop_cons hd.symm
    rw [rg_len] at h1
    rw [rg_get h1] at h2
    cases h2
    obtain ⟨z2, e, q⟩ := step k z h1 hI
    exact ⟨z2, e, q.imp fun f z3 r => by
      cases f with
      | nx => exact ⟨k + 1, h1, h3, r⟩
      | ct => exact ⟨k + 1, h1, h3, r⟩
      | bk => exact r
      | rt d => exact r⟩
  · rintro z ⟨k, hk, hd, hI⟩
    have : n ≤ k := by
      have := congrArg List.length hd
      rw [List.length_drop, rg_len] at this
      simp at this
      omega
    have : k = n := by omega
    subst this
    exact fin z hI
/-- for over a list, by an invariant over what is done and what is left -/
theorem Dz.each {mi : M It} {g : G} {xs : List D} (h : mi z = some (⟨xs, none⟩, z1)) (I : Nat → Z → Prop) (h0 : I 0 z1) (step : ∀ k d z, xs[k]? = some d → I k z → ∃ z1, g.run d z = some z1 ∧ Dz b z1 (turn (I (k + 1)) Φ)) (fin : ∀ z, I xs.length z → Φ .nx z) : Dz (C.for_ mi g b) z Φ := by
  refine Dz.for_ h rfl (fun ds z => ∃ k, k ≤ xs.length ∧ ds = xs.drop k ∧ I k z) ⟨0, Nat.zero_le _, rfl, h0⟩ ?_ ?_
  · rintro d ds z ⟨k, hk, hd, hI⟩
    obtain ⟨h1, h2, h3⟩ := drop_cons hd.symm
    obtain ⟨z2, e, q⟩ := step k d z h2 hI
    exact ⟨z2, e, q.imp fun f z3 r => by
      cases f with
      | nx => exact ⟨k + 1, h1, h3, r⟩
      | ct => exact ⟨k + 1, h1, h3, r⟩
      | bk => exact r
      | rt d => exact r⟩
  · rintro z ⟨k, hk, hd, hI⟩
    have : xs.length ≤ k := by
      have := congrArg List.length hd
      rw [List.length_drop] at this
      simp at this
      omega
    have : k = xs.length := by omega
    subst this
    exact fin z hI
/-- while, by a measure -/
theorem Dz.whl {t : M Bool} (I : Nat → Z → Prop) (step : ∀ n z, I n z → ∃ p z1, t z = some (p, z1) ∧ (p = true → Dz b z1 (turn (fun z2 => ∃ m, m < n ∧ I m z2) Φ)) ∧ (p = false → Φ .nx z1)) : ∀ (n : Nat) (z : Z), I n z → Dz (C.whl t b) z Φ := by
  intro n
  induction n using Nat.strongRecOn with
  | ind n ih =>
    intro z h
    obtain ⟨p, z1, e, hT, hF⟩ := step n z h
    cases p with
    | false => exact ⟨_, _, whl_f e, hF rfl⟩
    | true =>
      obtain ⟨f, z2, e2, q⟩ := hT rfl
      cases f with
      | nx =>
        obtain ⟨m, hm, q⟩ := q
        obtain ⟨f, z3, e3, q3⟩ := ih m hm z2 q
        exact ⟨f, z3, whl_t e e2 e3, q3⟩
      | ct =>
        obtain ⟨m, hm, q⟩ := q
        obtain ⟨f, z3, e3, q3⟩ := ih m hm z2 q
        refine ⟨f, z3, ?_, q3⟩
        rw [C.whl, e]
        dsimp only
        rw [e2]
        exact e3
      | bk => exact ⟨_, _, whl_bk e e2, q⟩
      | rt d => exact ⟨_, _, whl_rt e e2, q⟩
/-- a def by its body -/
theorem Dz.fn {n k : Nat} {ds h : List D} {R : D → List D → Prop} (hl : ds.length = k) (hb : Dz c ⟨slots n ds, h⟩ fun f z => match f with | .nx => R .non z.h | .rt d => R d z.h | _ => False) : ∃ d h', fn n k c ds h = some (d, h') ∧ R d h' := by
  obtain ⟨f, z', e, q⟩ := hb
  cases f with
  | nx => exact ⟨.non, z'.h, by unfold Mi.fn; rw [if_pos hl, e], q⟩
  | rt d => exact ⟨d, z'.h, by unfold Mi.fn; rw [if_pos hl, e], q⟩
  | bk => exact q.elim
  | ct => exact q.elim
theorem Dz.ends {d : D} (h : Dz c z fun f _ => f = .rt d) : Mi.Ends c z d := by
  obtain ⟨f, z1, e, rfl⟩ := h
  exact ⟨z1, e⟩
theorem Dz.end_ {d : D} (h : Mi.Ends c z d) (q : ∀ z1, Φ (.rt d) z1) : Dz c z Φ := by
  obtain ⟨z1, e⟩ := h
  exact ⟨_, _, e, q z1⟩
end
end Mi

set_option Elab.async false
set_option linter.all false
set_option maxRecDepth 100000
set_option maxHeartbeats 2000000
/-! Mi, part S: the common draws from a stream of small numbers. -/
namespace Mi
open PySem L2
local macro_rules | `(tactic| wtm_at "leaf") => `(tactic| first
  | ((with_reducible apply lf_cont); rfl)
  | (with_reducible exact atI_zero)
  | ((with_reducible apply lf_dcont); rfl)
  | ((with_reducible apply lf_dcS); rfl)
  | ((with_reducible apply lf_dgetC); rfl)
  | ((with_reducible apply lf_keyD); rfl)
  | ((with_reducible apply lf_isDict); rfl)
  | ((with_reducible apply lf_dkeys); rfl)
  | ((with_reducible apply lf_atI); first | rfl | exact atI_zero)
  | ((with_reducible apply lf_get); rfl)
  | ((with_reducible apply lf_pure); rfl)
  | ((with_reducible apply lf_setAt); rfl)
  | ((with_reducible apply lf_tru); rfl)
  | ((with_reducible apply lf_lt); exact Nat.le_of_ble_eq_true rfl)
  | ((with_reducible apply lf_pos); first | assumption | decide | omega)
  | ((with_reducible apply lf_le); decide)
  | ((with_reducible apply lf_isNm); rfl)
  | ((with_reducible apply lf_notNm); rfl)
  | ((with_reducible apply lf_noScr); rfl)
  | ((with_reducible apply lf_noKt); rfl)
  | (with_reducible exact eqP_int)
  | (with_reducible exact lf_abs)
  | (with_reducible exact lf_int1)
  | (with_reducible exact lf_max2)
  | (with_reducible exact lf_min2)
  | (with_reducible apply lf_len)
  | (with_reducible apply lf_tuple)
  | (with_reducible apply lf_isi)
  | (with_reducible exact eqP_t3)
  | (with_reducible exact eqP_bl)
  | (with_reducible exact eqP_t2)
  | (with_reducible exact kb_tt)
  | (with_reducible exact kb_bb)
  | (with_reducible exact kb_ii)
  | (with_reducible exact kb_it)
  | (with_reducible exact kb_ib)
  | (with_reducible exact kb_bi)
  | (with_reducible exact kb_ll)
  | (with_reducible exact kb_ss)
  | ((with_reducible apply lf_isiK); with_unfolding_all decide)
  | ((with_reducible apply lf_ty); rfl)
  | ((with_reducible apply lf_bd); exact ⟨by decide, by decide⟩)
  | ((with_reducible apply lf_allO); rfl)
  | ((with_reducible apply lf_app); first | ((repeat (first | (with_reducible exact la_nil) | (with_reducible apply la_cons))); done) | rfl)
  | ((with_reducible apply lf_set); first | ((repeat (first | (with_reducible exact sl_z) | (with_reducible apply sl_s))); done) | rfl)
  | ((with_reducible apply lf_slots); first | ((repeat (first | (with_reducible exact se_nil) | (with_reducible apply se_cons) | (with_reducible apply ss_cons) | (with_reducible apply ss_nil))); done) | rfl)
  | (with_reducible exact sw_nil)
  | (with_reducible apply sw_cons)
  | ((with_reducible apply lf_wipe); rfl)
  | (with_reducible exact sr_nil)
  | (with_reducible apply sr_cons)
  | ((with_reducible apply lf_rest); rfl)
  | (with_reducible apply gr_nm)
  | (with_reducible exact gr_nil)
  | (with_reducible apply gr_cons)
  | (with_reducible apply gr_tp)
  | (with_reducible apply gr_tl)
  | ((with_reducible apply lf_run); first | (simp only [G.nm, G.tp, G.tl, G.runs, List.set_cons_succ, List.set_cons_zero]; done) | rfl)
  | ((with_reducible apply lf_len0); rfl)
  )
local macro_rules | `(tactic| wtm_at "sm") => `(tactic| first
  | ((with_reducible apply lf_smn); with_reducible assumption)
  | (with_reducible exact Smn.nat (by decide))
  | (with_reducible apply Smn.mul)
  | (with_reducible apply Smn.add)
  | (with_reducible apply Smn.sub)
  | (with_reducible apply Smn.neg)
  | (with_reducible apply Smn.ite)
  | (with_reducible apply Smn.div _ (by omega))
  | (with_reducible apply Smn.mod _ (by omega))
  | ((with_reducible refine Smn.of ?_); omega))
local macro_rules | `(tactic| wtm_at "nl") => `(tactic| first
  | (with_reducible apply ev_rng1)
  | (with_reducible apply ev_rng2)
  | (with_reducible apply nl_nil)
  | ((with_reducible apply lf_nl); first | apply nl_tN | apply nl_nil)
  | ((with_reducible apply lf_ok); rfl)
  | ((with_reducible apply lf_itm); rfl))
local macro_rules | `(tactic| wtm_at "e1") => `(tactic| first
  | (with_reducible intro _)
  | (with_reducible exact ev_c)
  | (with_reducible exact ev_args0)
  | (with_reducible exact ev_part0)
  | ((with_reducible apply ev_var); rfl)
  | ((with_reducible apply ev_varO); rfl)
  | (with_reducible apply ev_ix)
  | (with_reducible apply ev_dix)
  | (with_reducible apply ev_din)
  | (with_reducible apply ev_dnotIn)
  | (with_reducible apply ev_get1)
  | (with_reducible apply ev_get2)
  | (with_reducible apply ev_shrN)
  | (with_reducible apply ev_frzD)
  | (with_reducible exact ev_pairs0)
  | (with_reducible apply ev_pairs)
  | (with_reducible apply ev_dispK)
  | (with_reducible apply ev_sortedD)
  | (with_reducible apply ev_rev)
  | (with_reducible apply ev_cutT)
  | (with_reducible apply ev_catT)
  | (with_reducible apply ev_seqK)
  | (with_reducible apply ev_add)
  | (with_reducible apply ev_sub)
  | (with_reducible apply ev_mul)
  | (with_reducible apply ev_div)
  | (with_reducible apply ev_mod)
  | (with_reducible apply ev_neg)
  | (with_reducible apply ev_lt)
  | (with_reducible apply ev_le)
  | (with_reducible apply ev_gt)
  | (with_reducible apply ev_ge)
  | (with_reducible apply ev_eq)
  | (with_reducible apply ev_ne)
  | (with_reducible apply ev_isN)
  | (with_reducible apply ev_notN)
  | (with_reducible apply ev_args)
  | (with_reducible apply ev_tup)
  | (with_reducible apply ev_frz)
  | (with_reducible apply ev_shr)
  | (with_reducible apply ev_disp)
  | (with_reducible apply ev_blt1)
  | (with_reducible apply ev_blt2)
  | (with_reducible apply ev_un)
  | (with_reducible apply ev_and)
  | (with_reducible apply ev_or)
  | (with_reducible apply ev_not)
  | (with_reducible apply tv)
  | (with_reducible apply tt_tru)
  | (with_reducible apply tt_and)
  | (with_reducible apply tt_or)
  | (with_reducible apply tt_not)
  | (with_reducible apply ev_ofSeq)
  | (with_reducible apply ev_part)
  | (with_reducible apply ev_slice)
  | (with_reducible apply ev_compN)
  | (with_reducible exact ev_true)
  | wtm_at "nl"
  | (with_reducible apply ev_chain)
  | (with_reducible apply ev_call)
  | wtm_at "call"
  | wtm_at "leaf"
  | wtm_at "sm")
local macro_rules | `(tactic| wtm_at "ev") => `(tactic| repeat' wtm_at "e1")
local macro_rules | `(tactic| wtm_at "dec") => `(tactic| decide)
local macro_rules | `(tactic| wtm_at "s1") => `(tactic| first
  | (with_reducible exact cs_skip)
  | (with_reducible apply cs_setN)
  | (with_reducible apply cs_dputO)
  | (with_reducible apply cs_ownD)
  | (with_reducible apply cs_frzD)
  | (with_reducible apply cs_retD)
  | (with_reducible apply cs_ownN)
  | (with_reducible apply cs_frzN)
  | (with_reducible apply cs_augN)
  | (with_reducible apply ev_chgN)
  | (with_reducible apply cs_setIxN)
  | (with_reducible apply cs_drop)
  | (with_reducible apply cs_asg)
  | (with_reducible apply cs_ret)
  | wtm_at "e1")
local macro_rules | `(tactic| wtm_at "st") => `(tactic| repeat' wtm_at "s1")
local macro_rules | `(tactic| wtm_at "dz") => `(tactic| (with_reducible apply Dz.nx; · wtm_at "st"))
local macro_rules | `(tactic| wtm_at "di") => `(tactic| (with_reducible apply Dz.ite; · wtm_at "ev"))

/-- a row: how far it is read, what stands in it -/
structure TS where
  pos : Int
  cells : List Int
  ok : 1 ≤ pos
def tkH (t : TS) : List D := [.lst (D.int t.pos :: t.cells.map D.int)]
def tkT (t : TS) (tl : List D) : List D := .lst (D.int t.pos :: t.cells.map D.int) :: tl
def takeV (t : TS) (many : Int) : Int := if t.pos < t.cells.length + 1 then t.cells.getD (t.pos - 1).toNat 0 % many else 0
def takeS (t : TS) : TS := if t.pos < t.cells.length + 1 then ⟨t.pos + 1, t.cells, by have := t.ok; omega⟩ else t
theorem takeV_nn (t : TS) {many : Int} (h : 0 < many) : 0 ≤ takeV t many := by
  unfold takeV
  split
  · exact Int.emod_nonneg _ (by omega)
  · decide
theorem takeV_lt (t : TS) {many : Int} (h : 0 < many) : takeV t many < many := by
  unfold takeV
  split
  · exact Int.emod_lt_of_pos _ h
  · exact h
namespace St
noncomputable section
def lp_law_stream1 : C := (C.seq (C.drop (E.chg U.append (E.var 1) [(E.op O.mod (E.var 3) (E.c (.int 59)))])) (C.seq (C.set 3 (E.op O.div (E.var 3) (E.c (.int 59)))) (C.ite (T.val (E.op O.eq (E.var 3) (E.c (.int 0)))) C.brk C.skip)))
def lp_law_stream2 : C := (C.seq (C.set 3 (E.blt F.abs [(E.blt F.int1 [(E.var 2)])])) (C.for_ (I.rng1 (E.c (.int 60))) (G.nm 4) lp_law_stream1))
def lp_law_stream3 : C := (C.set 5 (E.op O.mod (E.blt F.int1 [(E.op O.add (E.op O.add (E.op O.mul (E.var 5) (E.c (.int 131))) (E.var 2)) (E.c (.int 17)))]) (E.c (.int 1000003))))
def lp_law_stream4 : C := (C.seq (C.set 5 (E.op O.mod (E.blt F.int1 [(E.op O.add (E.op O.add (E.op O.mul (E.var 5) (E.c (.int 48271))) (E.op O.mul (E.var 4) (E.c (.int 69621)))) (E.c (.int 11)))]) (E.c (.int 2147483647)))) (C.drop (E.chg U.append (E.var 1) [(E.op O.mod (E.op O.div (E.var 5) (E.c (.int 1009))) (E.c (.int 59)))])))
@[reducible] def st_law_stream_5 : C := (C.for_ (I.rng1 (E.c (.int 150))) (G.nm 4) lp_law_stream4)
@[reducible] def st_law_stream_4 : C := (C.for_ (I.seq (E.frz (N.slice (E.var 0) none (some (E.c (.int 63)))))) (G.nm 2) lp_law_stream3)
@[reducible] def st_law_stream_2 : C := (C.for_ (I.seq (E.frz (N.slice (E.var 0) none (some (E.c (.int 63)))))) (G.nm 2) lp_law_stream2)
@[reducible] def st_law_stream_1 : C := (C.own 1 (N.disp [(E.c (.int 1))]))
def b_law_stream : C := (C.seq st_law_stream_1 (C.seq st_law_stream_2 (C.seq (C.set 5 (E.c (.int 7))) (C.seq st_law_stream_4 (C.seq st_law_stream_5 (C.retS (E.var 1)))))))
def m_law_stream : Fn := fn 6 1 b_law_stream
@[reducible] def st_law_take_1 : C := (C.ite (T.val (E.op O.lt (E.op O.ix (E.var 0) (E.c (.int 0))) (E.blt F.len [(E.var 0)]))) (C.seq (C.setIx (E.var 0) (E.c (.int 0)) (E.op O.add (E.op O.ix (E.var 0) (E.c (.int 0))) (E.c (.int 1)))) (C.ret (E.op O.mod (E.blt F.int1 [(E.op O.ix (E.var 0) (E.op O.sub (E.op O.ix (E.var 0) (E.c (.int 0))) (E.c (.int 1))))]) (E.var 1)))) C.skip)
def b_law_take : C := (C.seq st_law_take_1 (C.ret (E.c (.int 0))))
def m_law_take : Fn := fn 2 2 b_law_take
def lp_law1 : C := (C.seq (C.set 4 (E.op O.ix (E.var 2) (E.un O.neg (E.c (.int 1))))) (C.seq (C.set 5 (E.op O.ix (E.frz (N.disp [(E.tup [(E.c (.int 1)), (E.c (.int 0))]), (E.tup [(E.op O.sub (E.call m_law_take [(E.var 1), (E.c (.int 59))]) (E.c (.int 29))), (E.c (.int 0))]), (E.tup [(E.call m_law_take [(E.var 1), (E.c (.int 9))]), (E.op O.sub (E.call m_law_take [(E.var 1), (E.c (.int 59))]) (E.c (.int 29)))]), (E.tup [(E.c (.int 3)), (E.c (.int 3))])])) (E.call m_law_take [(E.var 1), (E.c (.int 4))]))) (C.seq (C.ite (T.val (E.op O.eq (E.var 5) (E.tup [(E.c (.int 0)), (E.c (.int 0))]))) (C.set 5 (E.tup [(E.c (.int 0)), (E.c (.int 1))])) C.skip) (C.drop (E.chg U.append (E.var 2) [(E.tup [(E.op O.add (E.op O.ix (E.var 4) (E.c (.int 0))) (E.op O.ix (E.var 5) (E.c (.int 0)))), (E.op O.add (E.op O.ix (E.var 4) (E.c (.int 1))) (E.op O.ix (E.var 5) (E.c (.int 1))))])])))))
@[reducible] def st_law_5 : C := (C.set 7 (E.op O.add (E.c (.int 1)) (E.call m_law_take [(E.var 1), (E.c (.int 40))])))
@[reducible] def st_law_3 : C := (C.for_ (I.rng1 (E.call m_law_take [(E.var 1), (E.c (.int 8))])) (G.nm 3) lp_law1)
@[reducible] def st_law_2 : C := (C.own 2 (N.disp [(E.tup [(E.call m_law_take [(E.var 1), (E.c (.int 59))]), (E.call m_law_take [(E.var 1), (E.c (.int 59))])])]))
@[reducible] def st_law_1 : C := (C.set 1 (E.call m_law_stream [(E.var 0)]))
end
theorem take_evT (tl : List D) (t : TS) {many : Int} (h : 0 < many) : m_law_take [.ref 0, .int many] (tkT t tl) = some (.int (takeV t many), tkT (takeS t) tl) := by
  have hp := t.ok
  have hl : ((D.int t.pos :: t.cells.map D.int).length : Int) = t.cells.length + 1 := by simp
  have tst : (T.val (E.op O.lt (E.op O.ix (E.var 0) (E.c (.int 0))) (E.blt F.len [(E.var 0)]))) ⟨[.val (.ref 0), .val (.int many)], tkT t tl⟩ = some (decide (t.pos < t.cells.length + 1), ⟨[.val (.ref 0), .val (.int many)], tkT t tl⟩) := by
    rw [← hl]
    exact tv (ev_lt (ev_ix (ev_var rfl) ev_c rfl atI_zero) (ev_blt1 (ev_var rfl) (lf_len rfl)))
  unfold m_law_take
  apply fn_rtH rfl
  unfold b_law_take st_law_take_1
  show (C.seq _ _) ⟨[.val (.ref 0), .val (.int many)], tkT t tl⟩ = _
  unfold takeV takeS
  by_cases c : t.pos < t.cells.length + 1
  · rw [decide_eq_true c] at tst
    rw [if_pos c, if_pos c]
    refine cs_rt (cs_iteT tst ?_)
    refine cs_nx (cs_setIxR (ds := D.int t.pos :: t.cells.map D.int) (ds' := D.int (t.pos + 1) :: t.cells.map D.int) (ev_add (ev_ix (ev_var rfl) ev_c rfl atI_zero) ev_c) (ev_var rfl) ev_c rfl rfl setAt0) ?_
    have e1 : atI (D.int (t.pos + 1) :: t.cells.map D.int) (t.pos + 1 - 1) = some (.int (t.cells.getD (t.pos - 1).toNat 0)) := by
      obtain ⟨n, hn⟩ : ∃ n : Nat, t.pos = n + 1 := ⟨(t.pos - 1).toNat, by omega⟩
      have hn2 : n < t.cells.length := by omega
      have h1 : t.pos + 1 - 1 = ((n + 1 : Nat) : Int) := by omega
      have h2 : (t.pos - 1).toNat = n := by omega
      rw [h1, h2]
      refine atI_nat ?_
      rw [List.getElem?_cons_succ, List.getElem?_map, List.getD_eq_getElem?_getD, List.getElem?_eq_getElem hn2]
      rfl
    exact cs_ret (ev_mod (ev_blt1 (ev_ix (ev_var rfl) (ev_sub (ev_ix (ev_var rfl) ev_c rfl atI_zero) ev_c) rfl e1) lf_int1) (ev_var rfl) h) rfl
  · rw [decide_eq_false c] at tst
    rw [if_neg c, if_neg c]
    exact cs_nx (cs_iteF tst cs_skip) (cs_ret ev_c rfl)
theorem take_ev (t : TS) {many : Int} (h : 0 < many) : m_law_take [.ref 0, .int many] (tkH t) = some (.int (takeV t many), tkH (takeS t)) := take_evT [] t h
def sS (S : D) (cs : List Int) (X2 X3 X4 X5 : Sl) : Z := ⟨[.val S, .own (.lst (D.int 1 :: cs.map D.int)), X2, X3, X4, X5], []⟩
theorem app_ev {S : D} {cs : List Int} {X2 X3 X4 X5 : Sl} {m : M D} {i : Int} (hm : m (sS S cs X2 X3 X4 X5) = some (.int i, sS S cs X2 X3 X4 X5)) (hl : cs.length < 10000) : (C.drop (E.chg U.append (E.var 1) [m])) (sS S cs X2 X3 X4 X5) = some (.nx, sS S (cs ++ [i]) X2 X3 X4 X5) := by
  have e : U.append (D.int 1 :: cs.map D.int) [.int i] = some (.non, D.int 1 :: (cs ++ [i]).map D.int) := by
    unfold U.append
    dsimp only
    rw [if_pos (by rw [List.length_cons, List.length_map]; exact Nat.lt_of_lt_of_le (Nat.succ_lt_succ hl) (by decide))]
    simp
  exact cs_drop (ev_chgN (n := 1) (ev_varO rfl) rfl (ev_args hm ev_args0 rfl) rfl e rfl)
theorem inner_ev (S : D) (cs : List Int) (X2 X4 X5 : Sl) (left : Int) (B : Nat) (hB : B ≤ 9000) (hc : cs.length + 60 ≤ B) : Dz (C.for_ (I.rng1 (E.c (.int 60))) (G.nm 4) lp_law_stream1) (sS S cs X2 (.val (.int left)) X4 X5) fun f z => f = .nx ∧ ∃ cs2 X3 X4, cs2.length ≤ B ∧ z = sS S cs2 X2 X3 X4 X5 := by
  refine Dz.for_ (ev_rng1 ev_c ⟨by decide, by decide⟩) rfl (fun ds z => ∃ cs2 left X4, cs2.length + ds.length ≤ B ∧ z = sS S cs2 X2 (.val (.int left)) X4 X5) ⟨cs, left, X4, by simpa [I.irng] using hc, rfl⟩ ?_ ?_
  · rintro d ds z ⟨cs2, left, X4, hl, rfl⟩
    rw [List.length_cons] at hl
    refine ⟨sS S cs2 X2 (.val (.int left)) (.val d) X5, rfl, ?_⟩
    unfold lp_law_stream1
    refine Dz.nx (app_ev (i := left % 59) (ev_mod (ev_var rfl) ev_c (by decide)) (by omega)) ?_
    refine Dz.nx (z1 := sS S (cs2 ++ [left % 59]) X2 (.val (.int (left / 59))) (.val d) X5) (cs_set (ev_div (ev_var rfl) ev_c (by decide) (Smn.nat (by decide)) (by decide)) rfl) ?_
    have hl2 : (cs2 ++ [left % 59]).length + ds.length ≤ B := by rw [List.length_append, List.length_singleton]; omega
    refine Dz.ite (tv (ev_eqI (ev_var rfl) ev_c)) (fun _ => Dz.brk ?_) fun _ => Dz.skip ?_
    · exact ⟨rfl, _, _, _, by omega, rfl⟩
    · exact ⟨_, _, _, hl2, rfl⟩
  · rintro z ⟨cs2, left, X4, hl, rfl⟩
    exact ⟨rfl, _, _, _, by simpa using hl, rfl⟩
theorem cut_len {ns : List Int} (hl : ns.length ≤ 63) : N.cutL (ns.map D.int) none (some 63) = ns.map D.int := by
  have e : HT.sIx (ns.map D.int).length (ns.map D.int).length (some 63) = (ns.map D.int).length := by
    rw [show (63 : Int) = ((63 : Nat) : Int) from rfl, HT.sIx_nat, List.length_map]
    exact Nat.min_eq_right hl
  unfold N.cutL
  rw [e]
  show ((ns.map D.int).drop 0).take ((ns.map D.int).length - 0) = _
  rw [List.drop_zero, Nat.sub_zero, List.take_length]
theorem stream_ev (ns : List Int) (hl : ns.length ≤ 63) : ∃ t : TS, m_law_stream [.scr (ns.map D.int)] [] = some (.ref 0, tkH t) := by
  have src : ∀ {X1 X2 X3 X4 X5 : Sl}, (I.seq (E.frz (N.slice (E.var 0) none (some (E.c (.int 63)))))) ⟨[.val (.scr (ns.map D.int)), X1, X2, X3, X4, X5], []⟩ = some (⟨ns.map D.int, none⟩, ⟨[.val (.scr (ns.map D.int)), X1, X2, X3, X4, X5], []⟩) := by
    intro X1 X2 X3 X4 X5
    refine ev_seq (x := .lst (ns.map D.int)) (ev_frz ?_) rfl
    have e := ev_slice (z := ⟨[.val (.scr (ns.map D.int)), X1, X2, X3, X4, X5], []⟩) (lo := none) (hi := some (E.c (.int 63))) (ds := ns.map D.int) (ev_var (n := 0) rfl) ev_part0 (ev_part ev_c) rfl
    rw [cut_len hl] at e
    exact e
  have body : Dz b_law_stream ⟨slots 6 [.scr (ns.map D.int)], []⟩ fun f z => match f with | .nx => False | .rt d => ∃ t : TS, d = .ref 0 ∧ z.h = tkH t | _ => False := by
    unfold b_law_stream
    refine Dz.nx (z1 := sS (.scr (ns.map D.int)) [] .no .no .no .no) (cs_own (ev_disp (ev_args ev_c ev_args0 rfl)) (Nat.le_of_ble_eq_true rfl)) ?_
    refine Dz.thn (R := fun z => ∃ cs X2 X3 X4, cs.length ≤ 3780 ∧ z = sS (.scr (ns.map D.int)) cs X2 X3 X4 .no) ?_ ?_
    · refine Dz.for_ src rfl (fun ds z => (∀ d ∈ ds, ∃ i, d = D.int i) ∧ ∃ cs X2 X3 X4, cs.length + 60 * ds.length ≤ 3780 ∧ z = sS (.scr (ns.map D.int)) cs X2 X3 X4 .no) ⟨fun d hd => ?_, [], _, _, _, ?_, rfl⟩ ?_ ?_
      · obtain ⟨i, _, rfl⟩ := List.mem_map.mp hd
        exact ⟨i, rfl⟩
      · simp only [List.length_nil, List.length_map]; omega
      · rintro d ds z ⟨hd, cs, X2, X3, X4, hc, rfl⟩
        obtain ⟨i, rfl⟩ := hd d List.mem_cons_self
        rw [List.length_cons] at hc
        refine ⟨sS (.scr (ns.map D.int)) cs (.val (.int i)) X3 X4 .no, rfl, ?_⟩
        unfold lp_law_stream2
        refine Dz.nx (cs_set (ev_blt1 (ev_blt1 (ev_var rfl) lf_int1) lf_abs) rfl) ?_
        refine (inner_ev (.scr (ns.map D.int)) cs (.val (.int i)) X4 .no _ (3780 - 60 * ds.length) (by omega) (by omega)).imp ?_
        rintro f z ⟨rfl, cs2, X3, X4, h2, rfl⟩
        exact ⟨fun d h => hd d (List.mem_cons_of_mem _ h), cs2, _, _, _, by omega, rfl⟩
      · rintro z ⟨_, cs, X2, X3, X4, hc, rfl⟩
        exact ⟨rfl, cs, X2, X3, X4, by simpa using hc, rfl⟩
    · rintro z ⟨cs, X2, X3, X4, hc, rfl⟩
      refine Dz.nx (z1 := sS (.scr (ns.map D.int)) cs X2 X3 X4 (.val (.int 7))) (cs_set ev_c rfl) ?_
      refine Dz.thn (R := fun z => ∃ X2 seed, (0 ≤ seed ∧ seed ≤ 2147483647) ∧ z = sS (.scr (ns.map D.int)) cs X2 X3 X4 (.val (.int seed))) ?_ ?_
      · refine Dz.for_ src rfl (fun ds z => (∀ d ∈ ds, ∃ i, d = D.int i) ∧ ∃ X2 seed, (0 ≤ seed ∧ seed ≤ 2147483647) ∧ z = sS (.scr (ns.map D.int)) cs X2 X3 X4 (.val (.int seed))) ⟨fun d hd => ?_, _, 7, by decide, rfl⟩ ?_ ?_
        · obtain ⟨i, _, rfl⟩ := List.mem_map.mp hd
          exact ⟨i, rfl⟩
        · rintro d ds z ⟨hd, X2, seed, hs, rfl⟩
          obtain ⟨i, rfl⟩ := hd d List.mem_cons_self
          have h1 : Smn 64 seed := Smn.of (by omega)
          refine ⟨sS (.scr (ns.map D.int)) cs (.val (.int i)) X3 X4 (.val (.int seed)), rfl, ?_⟩
          unfold lp_law_stream3
          refine Dz.of (cs_set (ev_mod (ev_blt1 (ev_add (ev_add (ev_mul (ev_var rfl) ev_c h1 (Smn.nat (by decide)) (by decide) (by decide)) (ev_var rfl)) ev_c) lf_int1) ev_c (by decide)) rfl) ?_
          exact ⟨fun d h => hd d (List.mem_cons_of_mem _ h), _, _, by omega, rfl⟩
        · rintro z ⟨_, X2, seed, hs, rfl⟩
          exact ⟨rfl, X2, seed, hs, rfl⟩
      · rintro z ⟨X2, seed, hs, rfl⟩
        refine Dz.thn (R := fun z => ∃ cs X4 X5, z = sS (.scr (ns.map D.int)) cs X2 X3 X4 X5) ?_ ?_
        · refine Dz.for_ (ev_rng1 ev_c ⟨by decide, by decide⟩) rfl (fun ds z => (∀ d ∈ ds, ∃ i : Int, (0 ≤ i ∧ i ≤ 150) ∧ d = D.int i) ∧ ∃ cs X4 seed, (0 ≤ seed ∧ seed ≤ 2147483647) ∧ cs.length + ds.length ≤ 4000 ∧ z = sS (.scr (ns.map D.int)) cs X2 X3 X4 (.val (.int seed))) ⟨fun d hd => ?_, cs, _, seed, hs, ?_, rfl⟩ ?_ ?_
          · unfold I.irng at hd
            obtain ⟨n, hn, rfl⟩ := List.mem_map.mp hd
            have := List.mem_range.mp hn
            exact ⟨_, by simp at this ⊢; omega, rfl⟩
          · simp [I.irng]; omega
          · rintro d ds z ⟨hd, cs, X4, seed, hs, hc, rfl⟩
            obtain ⟨i, hi, rfl⟩ := hd d List.mem_cons_self
            rw [List.length_cons] at hc
            have h1 : Smn 64 seed := Smn.of (by omega)
            have h2 : Smn 64 i := Smn.of (by omega)
            refine ⟨sS (.scr (ns.map D.int)) cs X2 X3 (.val (.int i)) (.val (.int seed)), rfl, ?_⟩
            unfold lp_law_stream4
            refine Dz.nx (z1 := sS (.scr (ns.map D.int)) cs X2 X3 (.val (.int i)) (.val (.int ((seed * 48271 + i * 69621 + 11) % 2147483647)))) (cs_set (ev_mod (ev_blt1 (ev_add (ev_add (ev_mul (ev_var rfl) ev_c h1 (Smn.nat (by decide)) (by decide) (by decide)) (ev_mul (ev_var rfl) ev_c h2 (Smn.nat (by decide)) (by decide) (by decide))) ev_c) lf_int1) ev_c (by decide)) rfl) ?_
            refine Dz.of (app_ev (i := (seed * 48271 + i * 69621 + 11) % 2147483647 / 1009 % 59) (ev_mod (ev_div (ev_var rfl) ev_c (by decide) (Smn.nat (by decide)) (by decide)) ev_c (by decide)) (by omega)) ?_
            exact ⟨fun d h => hd d (List.mem_cons_of_mem _ h), _, _, _, by omega, by rw [List.length_append, List.length_singleton]; omega, rfl⟩
          · rintro z ⟨_, cs, X4, seed, hs, hc, rfl⟩
            exact ⟨rfl, cs, X4, _, rfl⟩
        · rintro z ⟨cs, X4, X5, rfl⟩
          exact Dz.of (cs_retS (n := 1) (ev_varO rfl) rfl) ⟨⟨1, cs, by decide⟩, rfl, rfl⟩
  obtain ⟨d, h2, e, t, rfl, ht⟩ := Dz.fn (n := 6) (k := 1) (R := fun d h => ∃ t : TS, d = .ref 0 ∧ h = tkH t) rfl (body.imp fun f z q => by cases f <;> first | exact q.elim | exact q)
  exact ⟨t, by unfold m_law_stream; rw [e, ht]⟩
end St
end Mi

set_option Elab.async false
set_option linter.all false
set_option maxRecDepth 100000
/-! Mi, part R: data that can be shown. -/
namespace Mi
open PySem L2
/-- d can be shown: its depth, its weight -/
def Rep (d : D) (dep wt : Nat) : Prop := ∃ p, O.toP d = some p ∧ p.showable = true ∧ p.hasDict = false ∧ p.depth ≤ dep ∧ p.leavesShort 12 = true ∧ p.weight ≤ wt
def RepAll (ds : List D) (dep wt : Nat) : Prop := ∃ ps, O.toPs ds = some ps ∧ ps.length = ds.length ∧ PyData.showableAll ps = true ∧ PyData.hasDictAll ps = false ∧ PyData.depthAll ps ≤ dep ∧ PyData.leavesShortAll 12 ps = true ∧ PyData.weightAll ps ≤ ds.length * (wt + 1)
theorem Rep.mono {d : D} {a b w v : Nat} (h : Rep d a w) (h1 : a ≤ b) (h2 : w ≤ v) : Rep d b v := by
  obtain ⟨p, e, h3, h4, h5, h6, h7⟩ := h
  exact ⟨p, e, h3, h4, by omega, h6, by omega⟩
theorem Rep.int {i : Int} (h : -1000000000 ≤ i ∧ i ≤ 1000000000) : Rep (.int i) 0 40 := by
  have h1 : i.natAbs < 10 ^ 10 := by omega
  refine ⟨.int i, rfl, ?_, by simp [PyData.hasDict], by simp [PyData.depth], ?_, ?_⟩
  · simp only [PyData.showable, decide_eq_true_eq]
    have h2 : i.natAbs < 2 ^ 40 := by omega
    by_cases h0 : i.natAbs = 0
    · rw [h0]; decide
    · have := (Nat.log2_lt h0).mpr h2
      omega
  · have q := int_text_length_le10 (a := i) (k := 10) (by decide) h1
    rw [PyData.leavesShort]
    apply decide_eq_true
    show (Str.ofString (toString i)).length ≤ 12
    rw [ofString_length]
    omega
  · simp only [PyData.weight]
    split
    · omega
    · rename_i c
      have h0 : i.natAbs ≠ 0 := by simpa using c
      have h2 : i.natAbs < 2 ^ 39 := by omega
      have := (Nat.log2_lt h0).mpr h2
      omega
theorem Rep.non : Rep .non 0 0 := ⟨.none, rfl, by simp [PyData.showable], by simp [PyData.hasDict], by simp [PyData.depth], by simp [PyData.leavesShort], by simp [PyData.weight]⟩
theorem RepAll.of {dep wt : Nat} : ∀ {ds : List D}, (∀ d ∈ ds, Rep d dep wt) → RepAll ds dep wt
  | [], _ => ⟨[], rfl, rfl, by simp [PyData.showableAll], by simp [PyData.hasDictAll], by simp [PyData.depthAll], by simp [PyData.leavesShortAll], by simp [PyData.weightAll]⟩
  | d :: ds, h => by
    obtain ⟨p, e, h3, h4, h5, h6, h7⟩ := h d List.mem_cons_self
    obtain ⟨ps, e', g2, g3, g4, g5, g6, g7⟩ := RepAll.of (ds := ds) fun x hx => h x (List.mem_cons_of_mem _ hx)
    refine ⟨p :: ps, ?_, by simp [g2], by simp [PyData.showableAll, h3, g3], by simp [PyData.hasDictAll, h4, g4], ?_, by simp [PyData.leavesShortAll, h6, g6], ?_⟩
    · rw [O.toPs, e, e']
    · simp only [PyData.depthAll]; omega
    · simp only [PyData.weightAll, List.length_cons, Nat.add_mul, Nat.one_mul]; omega
theorem Rep.tup {ds : List D} {dep wt n : Nat} (h : ∀ d ∈ ds, Rep d dep wt) (hn : ds.length ≤ n) : Rep (.tup ds) (dep + 1) (n * (wt + 1)) := by
  obtain ⟨ps, e', g2, g3, g4, g5, g6, g7⟩ := RepAll.of h
  have := Nat.mul_le_mul_right (wt + 1) hn
  exact ⟨.tuple ps, by rw [O.toP, e']; rfl, by simpa [PyData.showable] using g3, by simpa [PyData.hasDict] using g4, by simp only [PyData.depth]; omega, by simpa [PyData.leavesShort] using g6, by simp only [PyData.weight]; omega⟩
theorem Rep.lst {ds : List D} {dep wt n : Nat} (h : ∀ d ∈ ds, Rep d dep wt) (hn : ds.length ≤ n) : Rep (.lst ds) (dep + 1) (n * (wt + 1)) := by
  obtain ⟨ps, e', g2, g3, g4, g5, g6, g7⟩ := RepAll.of h
  have := Nat.mul_le_mul_right (wt + 1) hn
  exact ⟨.list ps, by rw [O.toP, e']; rfl, by simpa [PyData.showable] using g3, by simpa [PyData.hasDict] using g4, by simp only [PyData.depth]; omega, by simpa [PyData.leavesShort] using g6, by simp only [PyData.weight]; omega⟩
/-- what repr says -/
def shw (d : D) : Str := match O.toP d with
  | some p => p.shown
  | none => ""
def isRow : D → Bool
  | .tup _ => true
  | .lst _ => true
  | _ => false
theorem repr_ev {x d : D} {z : Z} (hs : O.snap x z = d) (h : Rep d 40 1000000) (hr : isRow d = true) : F.repr [x] z = some (.str (shw d)) := by
  obtain ⟨p, e, h3, h4, h5, h6, h7⟩ := h
  have hrow : rowP p = true := by
    cases d with
    | tup ds =>
      rw [O.toP] at e
      cases hp : O.toPs ds with
      | none => rw [hp] at e; cases e
      | some q => rw [hp] at e; cases e; rfl
    | lst ds =>
      rw [O.toP] at e
      cases hp : O.toPs ds with
      | none => rw [hp] at e; cases e
      | some q => rw [hp] at e; cases e; rfl
    | _ => cases hr
  have hw : shw d = p.shown := by unfold shw; rw [e]
  rw [hw]
  show (match O.toP (O.snap x z) with | some p => if rprOk p = true ∧ p.shown.length ≤ sizeLine then some (D.str p.shown) else none | none => none) = _
  rw [hs, e]
  dsimp only
  rw [if_pos]
  refine ⟨?_, PyData.shown_fits (B := 12) (by decide) (by decide) h6 (by omega)⟩
  unfold rprOk
  rw [hrow, h3, h4, decide_eq_true h5]
  rfl
end Mi

set_option Elab.async false
set_option linter.all false
set_option maxRecDepth 100000
/-! Mi, part K: dicts. -/
namespace Mi
open PySem PySem.Spec PyProof.Rows L2
/-! ### plain -/
section
variable {κ α : Type} [DecidableEq κ]
def getG (kvs : List (κ × α)) (k : κ) : Option α := (kvs.find? fun kv => decide (kv.1 = k)).map (·.2)
def putG (kvs : List (κ × α)) (k : κ) (v : α) : List (κ × α) := if (kvs.any fun kv => decide (kv.1 = k)) = true then kvs.map (fun kv => if kv.1 = k then (kv.1, v) else kv) else kvs ++ [(k, v)]
def dropG (kvs : List (κ × α)) (k : κ) : List (κ × α) := kvs.filter fun kv => decide (kv.1 ≠ k)
end
def keyD : D → Option Key
  | .int i => some (.inl i)
  | .str s => some (.inr s)
  | _ => none
def keyDs : List D → Option (List Key)
  | [] => some []
  | d :: ds => match keyD d, keyDs ds with
    | some k, some ks => some (k :: ks)
    | _, _ => none
def keyT : D → Option (List Key)
  | .tup ds => keyDs ds
  | _ => none
/-- a dict's content -/
def dcont (x : D) (z : Z) : Option D := match x with
  | .dk kvs => some (.dk kvs)
  | .dt kvs => some (.dt kvs)
  | .ref n => match z.h[n]? with
    | some (.dk kvs) => some (.dk kvs)
    | some (.dt kvs) => some (.dt kvs)
    | _ => none
  | .own i => match z.s[i]? with
    | some (.own (.dk kvs)) => some (.dk kvs)
    | some (.own (.dt kvs)) => some (.dt kvs)
    | _ => none
  | _ => none
def dgetC (c key : D) : Option (Option D) := match c with
  | .dk kvs => match keyD key with
    | some k => some (getG kvs k)
    | none => none
  | .dt kvs => match keyT key with
    | some k => some (getG kvs k)
    | none => none
  | _ => none
def dputC (c key v : D) : Option D := match c with
  | .dk kvs => match keyD key with
    | some k => if kvs.length < szl then some (.dk (putG kvs k v)) else none
    | none => none
  | .dt kvs => match keyT key with
    | some k => if kvs.length < szl then some (.dt (putG kvs k v)) else none
    | none => none
  | _ => none
def ddropC (c key : D) : Option D := match c with
  | .dk kvs => match keyD key with
    | some k => some (.dk (dropG kvs k))
    | none => none
  | .dt kvs => match keyT key with
    | some k => some (.dt (dropG kvs k))
    | none => none
  | _ => none
def dget (x key : D) (z : Z) : Option (Option D) := match dcont x z with
  | some c => dgetC c key
  | none => none
namespace O
def dix (x y : D) (z : Z) : Option D := match dget x y z with
  | some o => o
  | none => none
def din (x y : D) (z : Z) : Option D := match dget y x z with
  | some o => some (.bl o.isSome)
  | none => none
def dnotIn (x y : D) (z : Z) : Option D := match dget y x z with
  | some o => some (.bl (!o.isSome))
  | none => none
end O
namespace E
/-- d.get(k) -/
def get1 (a b : M D) : M D := bnd a fun x z => if (dcont x z).isSome = true then bnd b (fun y z => match dget x y z with
  | some o => some (o.getD .non, z)
  | none => none) z else none
def get2 (a b c : M D) : M D := bnd a fun x z => if (dcont x z).isSome = true then bnd b (fun y => bnd c fun w z => if isPure w = true then match dget x y z with
  | some o => some (o.getD w, z)
  | none => none
  else none) z else none
/-- a new object laid down -/
def frzN (m : M D) : M D := m
/-- .. joins the shared heap -/
def shrN (m : M D) : M D := bnd m fun d z => some (.ref z.h.length, ⟨z.s, z.h ++ [d]⟩)
end E
namespace C
def dput (a k e : M D) : C := bnd e fun v => bnd a fun x => bnd k fun y z => if isPure v = true then match x with
    | .own i => match z.s[i]? with
      | some (.own c) => match dputC c y v with
        | some c' => some (.nx, ⟨z.s.set i (.own c'), z.h⟩)
        | none => none
      | _ => none
    | .ref n => match z.h[n]? with
      | some c => match dputC c y v with
        | some c' => some (.nx, ⟨z.s, z.h.set n c'⟩)
        | none => none
      | _ => none
    | _ => none
  else none
/-- the slot owns a new object -/
def ownN (i : Nat) (m : M D) : C := bnd m fun d z => if i < z.s.length then some (.nx, ⟨z.s.set i (.own d), z.h⟩) else none
def isDict : D → Bool
  | .dk _ => true
  | .dt _ => true
  | _ => false
/-- the slot's dict is not changed any more -/
def frzD (i : Nat) : C := fun z => match z.s[i]? with
  | some (.own d) => if isDict d = true then some (.nx, ⟨z.s.set i (.val d), z.h⟩) else none
  | _ => none
/-- return the slot's own dict -/
def retD (e : M D) : C := bnd e fun d z => match d with
  | .own i => match z.s[i]? with
    | some (.own d) => if isDict d = true then some (.rt d, ⟨z.s.set i .no, z.h⟩) else none
    | _ => none
  | _ => none
/-- a slot's own object goes to the shared heap -/
def retR (e : M D) : C := bnd e fun d z => match d with
  | .own i => match z.s[i]? with
    | some (.own d) => some (.rt (.ref z.h.length), ⟨z.s.set i .no, z.h ++ [d]⟩)
    | _ => none
  | _ => none
end C

/-! ### the relation of a dict's entries -/
def Rk (K : Kx) (F : Hp) (rho : List Addr) {κ : Type} (kvs : List (κ × D)) (es : List (κ × V)) : Prop := es.map Prod.fst = kvs.map Prod.fst ∧ Rps K F rho (kvs.map Prod.snd) (es.map Prod.snd)
section
variable {K : Kx} {F : Hp} {rho : List Addr} {κ : Type} [DecidableEq κ]
theorem Rk.length {kvs : List (κ × D)} {es : List (κ × V)} (r : Rk K F rho kvs es) : es.length = kvs.length := by
  have := congrArg List.length r.1
  simpa using this
theorem Rk.uncons {p : κ × D} {kvs : List (κ × D)} {es : List (κ × V)} (r : Rk K F rho (p :: kvs) es) : ∃ v es', es = (p.1, v) :: es' ∧ Rp K F rho p.2 v ∧ Rk K F rho kvs es' := by
  obtain ⟨h1, h2⟩ := r
  cases es with
  | nil => simp at h1
  | cons e es =>
    obtain ⟨k, v⟩ := e
    simp only [List.map_cons, List.cons.injEq] at h1
    simp only [List.map_cons] at h2
    cases h2 with
    | cons a b => exact ⟨v, es, by rw [← h1.1], a, h1.2, b⟩
theorem Rk.cons {k : κ} {d : D} {v : V} {kvs : List (κ × D)} {es : List (κ × V)} (a : Rp K F rho d v) (r : Rk K F rho kvs es) : Rk K F rho ((k, d) :: kvs) ((k, v) :: es) :=
  ⟨by simp only [List.map_cons, r.1], by simp only [List.map_cons]; exact .cons a r.2⟩
theorem Rk.nil : Rk K F rho ([] : List (κ × D)) [] := ⟨rfl, .nil⟩
theorem Rk.get (k : κ) : ∀ {kvs : List (κ × D)} {es : List (κ × V)}, Rk K F rho kvs es → (getG kvs k = none ∧ valV es k = none) ∨ ∃ d v, getG kvs k = some d ∧ valV es k = some v ∧ Rp K F rho d v
  | [], es, r => by
    have := r.length
    cases es with
    | nil => exact .inl ⟨rfl, rfl⟩
    | cons _ _ => simp at this
  | (j, d) :: kvs, es, r => by
    obtain ⟨v, es', rfl, h1, h2⟩ := r.uncons
    by_cases c : j = k
    · exact .inr ⟨d, v, by simp [getG, List.find?_cons, c], valV_pos c, h1⟩
    · have e1 : getG ((j, d) :: kvs) k = getG kvs k := by simp [getG, List.find?_cons, c]
      rw [e1, valV_neg c]
      exact Rk.get k h2
theorem any_keys (k : κ) {kvs : List (κ × D)} {es : List (κ × V)} (r : Rk K F rho kvs es) : (es.any fun kv => decide (kv.1 = k)) = kvs.any fun kv => decide (kv.1 = k) := by
  have e1 : (es.any fun kv => decide (kv.1 = k)) = (es.map Prod.fst).any fun j => decide (j = k) := by rw [List.any_map]; rfl
  have e2 : (kvs.any fun kv => decide (kv.1 = k)) = (kvs.map Prod.fst).any fun j => decide (j = k) := by rw [List.any_map]; rfl
  rw [e1, e2, r.1]
theorem Rk.repl (k : κ) {d : D} {v : V} (h : Rp K F rho d v) : ∀ {kvs : List (κ × D)} {es : List (κ × V)}, Rk K F rho kvs es → Rk K F rho (kvs.map fun kv => if kv.1 = k then (kv.1, d) else kv) (es.map fun kv => if kv.1 = k then (kv.1, v) else kv)
  | [], es, r => by
    have := r.length
    cases es with
    | nil => exact .nil
    | cons _ _ => simp at this
  | (j, d0) :: kvs, es, r => by
    obtain ⟨v0, es', rfl, h1, h2⟩ := r.uncons
    rw [List.map_cons, List.map_cons]
    dsimp only
    by_cases c : j = k
    · rw [if_pos c, if_pos c]
      exact .cons h (Rk.repl k h h2)
    · rw [if_neg c, if_neg c]
      exact .cons h1 (Rk.repl k h h2)
theorem Rk.append {kvs kvs2 : List (κ × D)} {es es2 : List (κ × V)} (r : Rk K F rho kvs es) (r2 : Rk K F rho kvs2 es2) : Rk K F rho (kvs ++ kvs2) (es ++ es2) :=
  ⟨by rw [List.map_append, List.map_append, r.1, r2.1], by rw [List.map_append, List.map_append]; exact r.2.append r2.2⟩
theorem Rk.put (k : κ) {d : D} {v : V} (h : Rp K F rho d v) {kvs : List (κ × D)} {es : List (κ × V)} (r : Rk K F rho kvs es) : Rk K F rho (putG kvs k d) (putK es k v) := by
  unfold putG putK
  rw [any_keys k r]
  split
  · exact r.repl k h
  · exact r.append (.cons h .nil)
theorem Rk.drop (k : κ) : ∀ {kvs : List (κ × D)} {es : List (κ × V)}, Rk K F rho kvs es → Rk K F rho (dropG kvs k) (dropK es k)
  | [], es, r => by
    have := r.length
    cases es with
    | nil => exact .nil
    | cons _ _ => simp at this
  | (j, d0) :: kvs, es, r => by
    obtain ⟨v0, es', rfl, h1, h2⟩ := r.uncons
    have ih := Rk.drop k h2
    unfold dropG dropK at ih ⊢
    rw [List.filter_cons, List.filter_cons]
    by_cases c : j = k
    · simpa [c] using ih
    · have e1 : (decide ((j, d0).1 ≠ k)) = true := decide_eq_true c
      have e2 : (decide ((j, v0).1 ≠ k)) = true := decide_eq_true c
      rw [if_pos e1, if_pos e2]
      exact .cons h1 ih
end
section
variable {K : Kx} {B : Bs} {F : Hp} {rho : List Addr} {om : Nat → Option Addr} {z : Z} {σ : L2.St} {H : Hp}
theorem keyD_ok {d : D} {v : V} {k : Key} (r : Rp K F rho d v) (e : keyD d = some k) : v = kV k := by
  cases r <;> first | (cases e; rfl) | cases e
theorem keyDs_ok : ∀ {ds : List D} {vs : List V} {k : List Key}, Rps K F rho ds vs → keyDs ds = some k → vs = k.map kV
  | [], _, _, .nil, e => by cases e; rfl
  | d :: ds, _, k, .cons r q, e => by
    rw [keyDs] at e
    split at e
    · rename_i k0 ks h1 h2
      cases e
      rw [keyD_ok r h1, keyDs_ok q h2]
      rfl
    · cases e
theorem keyT_ok {d : D} {v : V} {k : List Key} (r : Rp K F rho d v) (e : keyT d = some k) : ∃ b, v = .ref b ∧ F b = some (.tup (k.map kV)) := by
  cases r with
  | tup h q =>
    rw [← keyDs_ok q e]
    exact ⟨_, rfl, h⟩
  | _ => cases e
/-- a dict, read -/
theorem dcont_ok (R : Rl K B F rho om z σ H) {d c : D} {v : V} (r : Rv K F rho om d v) (e : dcont d z = some c) :
    ∃ a, v = .ref a ∧ ((∃ kvs es, c = .dk kvs ∧ Rd H a (.dK es) ∧ Rk K F rho kvs es) ∨ ∃ kvs es, c = .dt kvs ∧ Rd H a (.dT es) ∧ Rk K F rho kvs es) := by
  cases r with
  | pure r =>
    cases r with
    | @dk a es kvs o h k q =>
      cases e
      exact ⟨a, rfl, .inl ⟨kvs, es, rfl, .inr ⟨o, R.rh.fro _ _ h⟩, k, q⟩⟩
    | @dt a es kvs o h k q =>
      cases e
      exact ⟨a, rfl, .inr ⟨kvs, es, rfl, .inr ⟨o, R.rh.fro _ _ h⟩, k, q⟩⟩
    | @ref n a h =>
      unfold dcont at e
      dsimp only at e
      split at e
      · rename_i kvs hx
        cases e
        obtain ⟨es, h1, h2, h3⟩ := R.rh.obs n _ a hx h
        exact ⟨a, rfl, .inl ⟨kvs, es, rfl, .inl h1, h2, h3⟩⟩
      · rename_i kvs hx
        cases e
        obtain ⟨es, h1, h2, h3⟩ := R.rh.obs n _ a hx h
        exact ⟨a, rfl, .inr ⟨kvs, es, rfl, .inl h1, h2, h3⟩⟩
      · cases e
    | _ => cases e
  | @own i a h =>
    unfold dcont at e
    dsimp only at e
    split at e
    · rename_i kvs hx
      cases e
      obtain ⟨a', h1, _, es, h2, h3, h4⟩ := R.sl i _ hx
      rw [h] at h1
      cases h1
      exact ⟨a, rfl, .inl ⟨kvs, es, rfl, .inl h2, h3, h4⟩⟩
    · rename_i kvs hx
      cases e
      obtain ⟨a', h1, _, es, h2, h3, h4⟩ := R.sl i _ hx
      rw [h] at h1
      cases h1
      exact ⟨a, rfl, .inr ⟨kvs, es, rfl, .inl h2, h3, h4⟩⟩
    · cases e
theorem dget_ok (R : Rl K B F rho om z σ H) {x y : D} {xv yv : V} {o : Option D} (rx : Rv K F rho om x xv) (ry : Rv K F rho om y yv) (e : dget x y z = some o) :
    ∃ a, xv = .ref a ∧ ((o = none ∧ DGet H a yv none) ∨ ∃ d v, o = some d ∧ DGet H a yv (some v) ∧ Rp K F rho d v) := by
  unfold dget at e
  cases hc : dcont x z with
  | none => rw [hc] at e; cases e
  | some c =>
    rw [hc] at e
    dsimp only at e
    obtain ⟨a, rfl, h⟩ := dcont_ok R rx hc
    refine ⟨a, rfl, ?_⟩
    have pk : ∀ {k : Key}, keyD y = some k → yv = kV k := fun {k} hk => by
      cases ry with
      | pure ry => exact keyD_ok ry hk
      | own _ => cases hk
    have pt : ∀ {k : List Key}, keyT y = some k → ∃ b, yv = .ref b ∧ H b = some (.tup (k.map kV)) := fun {k} hk => by
      cases ry with
      | pure ry =>
        obtain ⟨b, e1, e2⟩ := keyT_ok ry hk
        exact ⟨b, e1, R.rh.fro _ _ e2⟩
      | own _ => cases hk
    rcases h with ⟨kvs, es, rfl, h1, h2⟩ | ⟨kvs, es, rfl, h1, h2⟩
    · unfold dgetC at e
      dsimp only at e
      cases hk : keyD y with
      | none => rw [hk] at e; cases e
      | some k =>
        rw [hk] at e
        cases e
        rcases h2.get k with ⟨e1, e2⟩ | ⟨d, v, e1, e2, e3⟩
        · exact .inl ⟨e1, .inl ⟨es, k, h1, pk hk, e2.symm⟩⟩
        · exact .inr ⟨d, v, e1, .inl ⟨es, k, h1, pk hk, e2.symm⟩, e3⟩
    · unfold dgetC at e
      dsimp only at e
      cases hk : keyT y with
      | none => rw [hk] at e; cases e
      | some k =>
        rw [hk] at e
        cases e
        obtain ⟨b, eb, hb⟩ := pt hk
        rcases h2.get k with ⟨e1, e2⟩ | ⟨d, v, e1, e2, e3⟩
        · exact .inl ⟨e1, .inr ⟨es, k, b, h1, eb, hb, e2.symm⟩⟩
        · exact .inr ⟨d, v, e1, .inr ⟨es, k, b, h1, eb, hb, e2.symm⟩, e3⟩
end
section
variable {X : Cx} {Tb : Tbs}
/-! ### d[k], k in d, d.get -/
theorem dix_go {K : Kx} {ma mb : M D} : ∀ σ H Q, Te K (E.op O.dix ma mb) σ H Q → tDGet (Te K ma) (Te K mb) σ H Q := by
  rintro σ H Q ⟨B, F, rho, om, z, g⟩
  refine (g.bnd.imp fun _ _ H1 _ _ xv _ _ _ _ _ ⟨F2, rho2, z2, x2, eg1, s1, p1, r1, g1⟩ => ?_).tx (R := rV K)
  refine (g1.bnd.imp fun _ _ H2 _ _ yv _ _ _ _ _ ⟨F3, rho3, z3, y3, eg2, s2, p2, r2, g2⟩ => ?_).tx (R := rV K)
  obtain ⟨R, d, z4, e, k⟩ := g2
  dsimp only at e
  split at e
  · cases e
  · rename_i d' hd
    cases e
    unfold O.dix at hd
    split at hd
    · rename_i o ho
      subst hd
      obtain ⟨a, rfl, h⟩ := dget_ok R (r1.mono s2 p2) r2 ho
      rcases h with ⟨h, _⟩ | ⟨d2, v, h, h2, h3⟩
      · cases h
      · cases h
        exact ⟨a, v, rfl, h2, k F3 rho3 H2 v (Same.refl _) (List.prefix_refl _) R (.pure h3)⟩
    · cases hd
theorem me_dix {a b : Expr} {pos : Pos} {ma mb : M D} (hu : X.A.units + 64 < cLine) (ha : PE X a (Te (kx X Tb) ma)) (hb : PE X b (Te (kx X Tb) mb)) (hs : NoSl b := by exact fun _ _ => rfl) : PE X (.Subscript a b pos) (Te (kx X Tb) (E.op O.dix ma mb)) :=
  pe_imp (pe_dget (by omega) ha hb hs) dix_go
theorem din_go {K : Kx} {ma mb : M D} : ∀ σ H Q, Te K (E.op O.din ma mb) σ H Q → tDIn (Te K ma) (Te K mb) σ H Q := by
  rintro σ H Q ⟨B, F, rho, om, z, g⟩
  refine (g.bnd.imp fun _ _ H1 _ _ xv _ _ _ _ _ ⟨F2, rho2, z2, x2, eg1, s1, p1, r1, g1⟩ => ?_).tx (R := rV K)
  refine (g1.bnd.imp fun _ _ H2 _ _ yv _ _ _ _ _ ⟨F3, rho3, z3, y3, eg2, s2, p2, r2, g2⟩ => ?_).tx (R := rV K)
  obtain ⟨R, d, z4, e, k⟩ := g2
  dsimp only at e
  split at e
  · cases e
  · rename_i d' hd
    cases e
    unfold O.din at hd
    split at hd
    · rename_i o ho
      cases hd
      obtain ⟨a, rfl, h⟩ := dget_ok R r2 (r1.mono s2 p2) ho
      rcases h with ⟨rfl, h⟩ | ⟨d2, v, rfl, h2, h3⟩
      · exact ⟨a, none, rfl, h, k F3 rho3 H2 _ (Same.refl _) (List.prefix_refl _) R (.pure (.bl _))⟩
      · exact ⟨a, some v, rfl, h2, k F3 rho3 H2 _ (Same.refl _) (List.prefix_refl _) R (.pure (.bl _))⟩
    · cases hd
theorem dnotIn_go {K : Kx} {ma mb : M D} : ∀ σ H Q, Te K (E.op O.dnotIn ma mb) σ H Q → tDNotIn (Te K ma) (Te K mb) σ H Q := by
  rintro σ H Q ⟨B, F, rho, om, z, g⟩
  refine (g.bnd.imp fun _ _ H1 _ _ xv _ _ _ _ _ ⟨F2, rho2, z2, x2, eg1, s1, p1, r1, g1⟩ => ?_).tx (R := rV K)
  refine (g1.bnd.imp fun _ _ H2 _ _ yv _ _ _ _ _ ⟨F3, rho3, z3, y3, eg2, s2, p2, r2, g2⟩ => ?_).tx (R := rV K)
  obtain ⟨R, d, z4, e, k⟩ := g2
  dsimp only at e
  split at e
  · cases e
  · rename_i d' hd
    cases e
    unfold O.dnotIn at hd
    split at hd
    · rename_i o ho
      cases hd
      obtain ⟨a, rfl, h⟩ := dget_ok R r2 (r1.mono s2 p2) ho
      rcases h with ⟨rfl, h⟩ | ⟨d2, v, rfl, h2, h3⟩
      · exact ⟨a, none, rfl, h, k F3 rho3 H2 _ (Same.refl _) (List.prefix_refl _) R (.pure (.bl _))⟩
      · exact ⟨a, some v, rfl, h2, k F3 rho3 H2 _ (Same.refl _) (List.prefix_refl _) R (.pure (.bl _))⟩
    · cases hd
theorem me_din {a b : Expr} {pos : Pos} {ma mb : M D} (hu : X.A.units + 64 < cLine) (ha : PE X a (Te (kx X Tb) ma)) (hb : PE X b (Te (kx X Tb) mb)) (hm : behindInMarks .In b = false := by rfl) : PE X (.Compare a [.In] [b] pos) (Te (kx X Tb) (E.op O.din ma mb)) := pe_imp (pe_cmp (pc_din (by omega) ha hb) hm) din_go
theorem mt_din {a b : Expr} {pos : Pos} {ma mb : M D} (hu : X.A.units + 64 < cLine) (ha : PE X a (Te (kx X Tb) ma)) (hb : PE X b (Te (kx X Tb) mb)) (hm : behindInMarks .In b = false := by rfl) : PT X (.Compare a [.In] [b] pos) (Tt (kx X Tb) (T.val (E.op O.din ma mb))) := pt_imp (pt_cmp (pc_din (by omega) ha hb) hm) (tv_go din_go)
theorem me_dnotIn {a b : Expr} {pos : Pos} {ma mb : M D} (hu : X.A.units + 64 < cLine) (ha : PE X a (Te (kx X Tb) ma)) (hb : PE X b (Te (kx X Tb) mb)) (hm : behindInMarks .NotIn b = false := by rfl) : PE X (.Compare a [.NotIn] [b] pos) (Te (kx X Tb) (E.op O.dnotIn ma mb)) := pe_imp (pe_cmp (pc_dnotin (by omega) ha hb) hm) dnotIn_go
theorem mt_dnotIn {a b : Expr} {pos : Pos} {ma mb : M D} (hu : X.A.units + 64 < cLine) (ha : PE X a (Te (kx X Tb) ma)) (hb : PE X b (Te (kx X Tb) mb)) (hm : behindInMarks .NotIn b = false := by rfl) : PT X (.Compare a [.NotIn] [b] pos) (Tt (kx X Tb) (T.val (E.op O.dnotIn ma mb))) := pt_imp (pt_cmp (pc_dnotin (by omega) ha hb) hm) (tv_go dnotIn_go)
theorem isD_ok {K : Kx} {B : Bs} {F : Hp} {rho : List Addr} {om : Nat → Option Addr} {z : Z} {σ : L2.St} {H : Hp} {x : D} {v : V} (R : Rl K B F rho om z σ H) (r : Rv K F rho om x v) (h : (dcont x z).isSome = true) : ∃ a, v = .ref a ∧ IsD H a := by
  cases hc : dcont x z with
  | none => rw [hc] at h; cases h
  | some c =>
    obtain ⟨a, rfl, q⟩ := dcont_ok R r hc
    rcases q with ⟨kvs, es, _, q, _⟩ | ⟨kvs, es, _, q, _⟩
    · exact ⟨a, rfl, .inl ⟨es, q⟩⟩
    · exact ⟨a, rfl, .inr ⟨es, q⟩⟩
theorem get1_go {K : Kx} {ma mb : M D} : ∀ σ H Q, Te K (E.get1 ma mb) σ H Q → tDGet1 (Te K ma) (Te K mb) σ H Q := by
  rintro σ H Q ⟨B, F, rho, om, z, g⟩
  refine (g.bnd.imp fun _ _ H1 _ _ xv _ _ _ _ _ ⟨F2, rho2, z2, x2, eg1, s1, p1, r1, g1⟩ => ?_).tx (R := rV K)
  obtain ⟨R, d, z4, e, k⟩ := g1
  dsimp only at e
  split at e
  · rename_i hd
    obtain ⟨a, rfl, hi⟩ := isD_ok R r1 hd
    refine ⟨a, rfl, hi, ?_⟩
    have g2 : Go K (rV K) B F2 rho2 om (bnd mb fun y z => match dget x2 y z with | some o => some (o.getD .non, z) | none => none) z2 σ H1 Q := ⟨R, d, z4, e, k⟩
    refine (g2.bnd.imp fun _ _ H2 _ _ yv _ _ _ _ _ ⟨F3, rho3, z3, y3, eg2, s2, p2, r2, g3⟩ => ?_).tx (R := rV K)
    obtain ⟨R3, d3, z5, e3, k3⟩ := g3
    dsimp only at e3
    split at e3
    · rename_i o ho
      cases e3
      obtain ⟨a2, ea, h⟩ := dget_ok R3 (r1.mono s2 p2) r2 ho
      cases ea
      rcases h with ⟨rfl, h⟩ | ⟨d2, v, rfl, h2, h3⟩
      · exact ⟨none, h, k3 F3 rho3 H2 _ (Same.refl _) (List.prefix_refl _) R3 (.pure .non)⟩
      · exact ⟨some v, h2, k3 F3 rho3 H2 _ (Same.refl _) (List.prefix_refl _) R3 (.pure h3)⟩
    · cases e3
  · cases e
theorem me_get1 {o e : Expr} {apos cpos : Pos} {ma mb : M D} (hu : X.A.units + 64 < cLine) (ha : PE X o (Te (kx X Tb) ma)) (hb : PE X e (Te (kx X Tb) mb)) (m : M1 X o "get" apos e cpos := by exact ⟨rfl, rfl, rfl, rfl⟩) : PE X (.Call (.Attribute o "get" apos) [e] [] cpos) (Te (kx X Tb) (E.get1 ma mb)) :=
  pe_imp (pe_dget1 (by omega) ha hb m) get1_go
theorem get2_go {K : Kx} {ma mb mc : M D} : ∀ σ H Q, Te K (E.get2 ma mb mc) σ H Q → tDGet2 (Te K ma) (Te K mb) (Te K mc) σ H Q := by
  rintro σ H Q ⟨B, F, rho, om, z, g⟩
  refine (g.bnd.imp fun _ _ H1 _ _ xv _ _ _ _ _ ⟨F2, rho2, z2, x2, eg1, s1, p1, r1, g1⟩ => ?_).tx (R := rV K)
  obtain ⟨R, d, z4, e, k⟩ := g1
  dsimp only at e
  split at e
  · rename_i hd
    obtain ⟨a, rfl, hi⟩ := isD_ok R r1 hd
    refine ⟨a, rfl, hi, ?_⟩
    have g2 : Go K (rV K) B F2 rho2 om (bnd mb fun y => bnd mc fun w z => if isPure w = true then match dget x2 y z with | some o => some (o.getD w, z) | none => none else none) z2 σ H1 Q := ⟨R, d, z4, e, k⟩
    refine (g2.bnd.imp fun _ _ H2 _ _ yv _ _ _ _ _ ⟨F3, rho3, z3, y3, eg2, s2, p2, r2, g3⟩ => ?_).tx (R := rV K)
    refine (g3.bnd.imp fun _ _ H4 _ _ wv _ _ _ _ _ ⟨F5, rho5, z5, w5, eg5, s5, p5, r5, g5⟩ => ?_).tx (R := rV K)
    obtain ⟨R3, d3, z6, e3, k3⟩ := g5
    dsimp only at e3
    split at e3
    · rename_i hw
      split at e3
      · rename_i o ho
        cases e3
        obtain ⟨a2, ea, h⟩ := dget_ok R3 ((r1.mono s2 p2).mono s5 p5) (r2.mono s5 p5) ho
        cases ea
        rcases h with ⟨rfl, h⟩ | ⟨d2, v, rfl, h2, h3⟩
        · exact ⟨none, h, k3 F5 rho5 H4 _ (Same.refl _) (List.prefix_refl _) R3 r5⟩
        · exact ⟨some v, h2, k3 F5 rho5 H4 _ (Same.refl _) (List.prefix_refl _) R3 (.pure h3)⟩
      · cases e3
    · cases e3
  · cases e
theorem me_get2 {o e f : Expr} {apos cpos : Pos} {ma mb mc : M D} (hu : X.A.units + 64 < cLine) (ha : PE X o (Te (kx X Tb) ma)) (hb : PE X e (Te (kx X Tb) mb)) (hc : PE X f (Te (kx X Tb) mc)) (m : M2 X o "get" apos e f cpos := by exact ⟨rfl, rfl, rfl, rfl⟩) : PE X (.Call (.Attribute o "get" apos) [e, f] [] cpos) (Te (kx X Tb) (E.get2 ma mb mc)) :=
  pe_imp (pe_dget2 (by omega) ha hb hc m) get2_go

/-! ### new objects -/
abbrev rN (K : Kx) : RelT D V := fun B F rho om H d v => ∃ p, v = .ref p ∧ Fresh K B F rho om H p ∧ Ob K F rho H p d
abbrev Tn (K : Kx) (m : M D) : TE := Tx K (rN K) m
theorem mn_dnewK {pos : Pos} : PE X (.Dict [] [] pos) (Tn (kx X Tb) (ret (.dk []))) := by
  refine pe_imp pe_dnewK fun σ H Q ⟨B, F, rho, om, z, R, d, z', e, k⟩ => ?_
  cases e
  intro p hp
  obtain ⟨R2, f2⟩ := R.new (o := .dK []) hp
  exact k F rho _ _ (Same.refl _) (List.prefix_refl _) R2 ⟨p, rfl, f2, [], upd_same, rfl, .nil⟩
theorem mn_dnewT {pos : Pos} : PE X (.Dict [] [] pos) (Tn (kx X Tb) (ret (.dt []))) := by
  refine pe_imp pe_dnewT fun σ H Q ⟨B, F, rho, om, z, R, d, z', e, k⟩ => ?_
  cases e
  intro p hp
  obtain ⟨R2, f2⟩ := R.new (o := .dT []) hp
  exact k F rho _ _ (Same.refl _) (List.prefix_refl _) R2 ⟨p, rfl, f2, [], upd_same, rfl, .nil⟩
/-- a new list, as such a thing -/
theorem mn_lst {e : Expr} {m : M (List D)} (h : PE X e (Tf (kx X Tb) m)) : PE X e (Tn (kx X Tb) (bnd m fun ds => ret (.lst ds))) := by
  refine pe_imp h fun σ H Q ⟨B, F, rho, om, z, g⟩ => ?_
  refine (g.bnd.imp fun _ _ H1 _ _ v _ _ _ _ _ ⟨F2, rho2, z2, xs, eg1, s1, p1, ⟨p, vs, hv, hp, f, r1⟩, g1⟩ => ?_).tx (R := rF (kx X Tb))
  exact g1.ret _ ⟨p, hv, f, vs, hp, r1⟩
theorem me_shrN {e : Expr} {m : M D} (h : PE X e (Tn (kx X Tb) m)) : PE X e (Te (kx X Tb) (E.shrN m)) := by
  refine pe_imp h fun σ H Q ⟨B, F, rho, om, z, g⟩ => ?_
  refine (g.bnd.imp fun _ _ H1 _ _ v _ _ _ _ _ ⟨F2, rho2, z2, d, eg1, s1, p1, ⟨p, hv, f, r1⟩, g1⟩ => ?_).tx (R := rN (kx X Tb))
  subst hv
  obtain ⟨R, d', z4, e, k⟩ := g1
  cases e
  obtain ⟨R3, q3⟩ := R.share (d := d) f r1
  exact k _ _ _ _ (Same.refl _) (List.prefix_append _ _) R3 (.pure (.ref q3))
theorem ownN_go {K : Kx} {i : Nat} {m : M D} {te : TE} (h : ∀ σ H Q, Tn K m σ H Q → te σ H Q) : ∀ D σ H, Ts K (C.ownN i m) D σ H → tAsg te (gName i) D σ H := by
  rintro D σ H ⟨B, F, rho, om, z, R, f, z', e, k⟩
  obtain ⟨d, z1, e1, e2⟩ := bnd_some e
  refine h σ H _ ⟨B, F, rho, om, z, R, d, z1, e1, fun F1 rho1 H1 v s p R1 ⟨a, hv, f0, r1⟩ => ?_⟩
  subst hv
  try dsimp only at e2
  split at e2
  · rename_i hl
    cases e2
    exact k F1 rho1 _ _ H1 s p (R1.setOwn i hl f0 r1)
  · cases e2
theorem ms_ownN {i : Nat} {x : Str} {e : Expr} {m : M D} {pos pos' : Pos} (hN : X.N.Nodup) (he : PE X e (Tn (kx X Tb) m)) (hi : X.N[i]? = some x := by rfl) (hx : Loc X.env.scope x := by first | exact Or.inl rfl | exact Or.inr rfl)
    (hs : swapsWith e (some (.Name x pos')) pos.line X.env = pure false := by rfl) (hf : X.fn x = true ∨ X.env.scope.names.lookup x = some .local := by first | exact .inl rfl | exact .inr rfl) : PS X (.Assign [.Name x pos'] e pos) (Ts (kx X Tb) (C.ownN i m)) :=
  ps_imp (ps_set hN hi hx he hs hf) (ownN_go fun _ _ _ h => h)
/-! ### d[k] = e -/
theorem dput_rel {K : Kx} {F : Hp} {rho : List Addr} {H : Hp} {a : Addr} {c c' y v : D} {yv vv : V} (fro : Same F H) (ob : Ob K F rho H a c) (ry : Rp K F rho y yv) (rv : Rp K F rho v vv) (e : dputC c y v = some c') :
    ∃ o, DPut H a yv vv (upd H a o) ∧ Ob K F rho (upd H a o) a c' := by
  unfold dputC at e
  split at e
  · rename_i kvs
    obtain ⟨es, h1, h2, h3⟩ := ob
    split at e
    · rename_i k hk
      split at e
      · rename_i hz
        cases e
        have r := Rk.put (K := K) (F := F) (rho := rho) k rv ⟨h2, h3⟩
        refine ⟨_, .inl ⟨es, k, h1, keyD_ok ry hk, ?_, rfl⟩, _, upd_same, r.1, r.2⟩
        rw [Rk.length (K := K) (F := F) (rho := rho) ⟨h2, h3⟩]
        exact szl_ok hz
      · cases e
    · cases e
  · rename_i kvs
    obtain ⟨es, h1, h2, h3⟩ := ob
    split at e
    · rename_i k hk
      split at e
      · rename_i hz
        cases e
        have r := Rk.put (K := K) (F := F) (rho := rho) k rv ⟨h2, h3⟩
        obtain ⟨b, eb, hb⟩ := keyT_ok ry hk
        refine ⟨_, .inr ⟨es, k, b, h1, eb, fro _ _ hb, ?_, rfl⟩, _, upd_same, r.1, r.2⟩
        rw [Rk.length (K := K) (F := F) (rho := rho) ⟨h2, h3⟩]
        exact szl_ok hz
      · cases e
    · cases e
  · cases e
theorem dput_pure {c y v c' : D} (h : dputC c y v = some c') : isPure y = true := by
  unfold dputC at h
  cases y <;> first | rfl | (split at h <;> first | cases h | (split at h <;> first | cases h | (rename_i hk; cases hk)))
theorem ms_dput {o i e : Expr} {ma mk me : M D} {p pos : Pos} (hu : X.A.units + 64 < cLine) (he : PE X e (Te (kx X Tb) me)) (ha : PE X o (Te (kx X Tb) ma)) (hk : PE X i (Te (kx X Tb) mk)) (hs : swapsWith e (some (.Subscript o i p)) pos.line X.env = pure false := by rfl) :
    PS X (.Assign [.Subscript o i p] e pos) (Ts (kx X Tb) (C.dput ma mk me)) := by
  refine ps_imp (ps_dput (by omega) ha hk he hs) fun D σ H ⟨B, F, rho, om, z, R, f, z', e, k⟩ => ?_
  obtain ⟨d, z1, e1, e2⟩ := bnd_some e
  refine ⟨B, F, rho, om, z, R, d, z1, e1, fun F1 rho1 H1 v s1 p1 R1 r1 => ?_⟩
  obtain ⟨x, z2, e3, e4⟩ := bnd_some e2
  refine ⟨B, F1, rho1, om, z1, R1, x, z2, e3, fun F2 rho2 H2 w s2 p2 R2 r2 => ?_⟩
  obtain ⟨y, z3, e5, e6⟩ := bnd_some e4
  refine ⟨B, F2, rho2, om, z2, R2, y, z3, e5, fun F3 rho3 H3 u s3 p3 R3 r3 => ?_⟩
  try dsimp only at e6
  split at e6
  · rename_i hp
    have rd : Rp (kx X Tb) F3 rho3 d v := ((r1.of_pure hp).mono s2 p2).mono s3 p3
    have r2' := r2.mono s3 p3
    split at e6
    · rename_i j
      cases r2' with
      | pure r2' => cases r2'
      | own h =>
        split at e6
        · rename_i c hc
          split at e6
          · rename_i c' hd
            cases e6
            obtain ⟨a', h1, h5, h2⟩ := R3.sl _ _ hc
            rw [h] at h1
            cases h1
            obtain ⟨o, q1, q2⟩ := dput_rel R3.rh.fro h2 (r3.of_pure (dput_pure hd)) rd hd
            exact ⟨_, _, rfl, q1, k F3 rho3 _ _ _ ((s1.trans s2).trans s3) ((p1.trans p2).trans p3) (R3.mutOwn h hc q2)⟩
          · cases e6
        · cases e6
    · rename_i n
      cases r2' with
      | pure r2' =>
        cases r2' with
        | ref h =>
          split at e6
          · rename_i c hc
            split at e6
            · rename_i c' hd
              cases e6
              obtain ⟨o, q1, q2⟩ := dput_rel R3.rh.fro (R3.rh.obs n _ _ hc h) (r3.of_pure (dput_pure hd)) rd hd
              exact ⟨_, _, rfl, q1, k F3 rho3 _ _ _ ((s1.trans s2).trans s3) ((p1.trans p2).trans p3) (R3.mutRef h q2)⟩
            · cases e6
          · cases e6
    · cases e6
  · cases e6
end
end Mi

set_option Elab.async false
set_option linter.all false
set_option maxRecDepth 100000
/-! Mi, part L: dicts that are laid down, displays, sorted(d), slices. -/
namespace Mi
open PySem PySem.Spec PyProof.Rows L2 PySem.W
/-! ### a dict is laid down: it is locked for ever -/
namespace E
def frzD (m : M D) : M D := bnd m fun d => if C.isDict d = true then Mi.ret d else fun _ => none
end E
section
variable {K : Kx} {B : Bs} {F : Hp} {rho : List Addr} {om : Nat → Option Addr} {z : Z} {σ : L2.St} {H : Hp} {p : Addr}
theorem ob_dict {d : D} (h : Ob K F rho H p d) (hd : C.isDict d = true) : ∃ u, H p = some u ∧ Mut (some u) ∧ NT u ∧ ∀ {F' : Hp} {rho' : List Addr} (o : Obj), Same F F' → rho <+: rho' → F' p = some (.frz o u) → Rp K F' rho' d (.ref p) := by
  cases d <;> try (cases hd; done)
  · obtain ⟨es, h1, h2, h3⟩ := h
    exact ⟨_, h1, trivial, (fun _ e => nomatch e), fun o s q e => .dk e h2 (h3.mono s q)⟩
  · obtain ⟨es, h1, h2, h3⟩ := h
    exact ⟨_, h1, trivial, (fun _ e => nomatch e), fun o s q e => .dt e h2 (h3.mono s q)⟩
/-- an object of nobody's, locked, is laid down -/
theorem Rl.lock (R : Rl K B F rho om z σ H) (f : Fresh K B F rho om H p) {u : HO} (o : Obj) : ∃ F', Rl K B F' rho om z σ (upd H p (.frz o u)) ∧ Same F F' ∧ F' p = some (.frz o u) := by
  obtain ⟨R1, f1⟩ := R.mutFresh (o := .frz o u) f
  obtain ⟨R2, s2⟩ := R1.lay f1 upd_same
  exact ⟨_, R2, s2, upd_same⟩
end
section
variable {X : Cx} {Tb : Tbs}
theorem pe_lk {e : Expr} {t : TE} (h : PE X e t) : PE X e fun σ H Q => t σ H fun v H1 => ∃ d u, v = .ref d ∧ H1 d = some u ∧ Mut (some u) ∧ ∀ od, Q v (upd H1 d (.frz od u)) := by
  refine ⟨fun pins s σ H Q I hw => ?_⟩
  refine thn (h.run pins s σ H _ I hw) fun v s1 ⟨x, H1, I1, r, d, u, ex, hd, mu, q⟩ => ?_
  obtain ⟨od, I2⟩ := I1.lock hd mu
  exact ⟨x, _, I2, r, q od⟩
theorem pss_lk {st : List Stmt} {t : L2.TS} (h : PSs X st t) : PSs X st fun D σ H => ∃ d u, H d = some u ∧ Mut (some u) ∧ ∀ od, t D σ (upd H d (.frz od u)) := by
  refine ⟨fun pins s σ H D I hw => ?_⟩
  obtain ⟨d, u, hd, mu, q⟩ := hw
  obtain ⟨od, I2⟩ := I.lock hd mu
  exact h.run pins s σ _ D I2 (q od)
theorem me_frzD {e : Expr} {m : M D} (h : PE X e (Tn (kx X Tb) m)) : PE X e (Te (kx X Tb) (E.frzD m)) := by
  refine pe_imp (pe_lk h) fun σ H Q ⟨B, F, rho, om, z, g⟩ => ?_
  refine (g.bnd.imp fun _ _ H1 _ _ v _ _ _ _ _ ⟨F2, rho2, z2, d, eg1, s1, p1, ⟨p, hv, f, r1⟩, g1⟩ => ?_).tx (R := rN (kx X Tb))
  subst hv
  obtain ⟨R, d', z4, e, k⟩ := g1
  split at e
  · rename_i hd
    cases e
    obtain ⟨u, h1, mu, _, r2⟩ := ob_dict r1 hd
    refine ⟨p, u, rfl, h1, mu, fun od => ?_⟩
    obtain ⟨F3, R3, s3, q3⟩ := R.lock (u := u) f od
    exact k F3 rho2 _ _ s3 (List.prefix_refl _) R3 (.pure (r2 od s3 (List.prefix_refl _) q3))
  · cases e
theorem ms_retD {e : Expr} {m : M D} {pos : Pos} (he : PE X e (Te (kx X Tb) m)) : PS X (.Return (some e) pos) (Ts (kx X Tb) (C.retD m)) := by
  refine ps_imp (ps_ret (pe_lk he)) fun D σ H ⟨B, F, rho, om, z, R, f, z', e, k⟩ => ?_
  obtain ⟨x, z1, e1, e2⟩ := bnd_some e
  refine ⟨B, F, rho, om, z, R, x, z1, e1, fun F1 rho1 H1 v s p R1 r1 => ?_⟩
  cases r1 with
  | pure r1 => cases x <;> first | (cases e2; done) | (cases r1; done)
  | @own i a h =>
    dsimp only at e2
    split at e2
    · rename_i d hs
      split at e2
      · rename_i hd
        cases e2
        obtain ⟨a', h1, h2, h5⟩ := R1.sl i _ hs
        rw [h] at h1
        cases h1
        obtain ⟨u, q1, mu, _, r2⟩ := ob_dict h5 hd
        refine ⟨a, u, rfl, q1, mu, fun od => ?_⟩
        have f0 := R1.freshOwn h
        obtain ⟨F3, R3, s3, q3⟩ := (R1.forget i).lock (u := u) f0 od
        exact k F3 rho1 _ σ _ _ (s.trans s3) p R3 (r2 od s3 (List.prefix_refl _) q3)
      · cases e2
    · cases e2
theorem ms_retR {e : Expr} {m : M D} {pos : Pos} (he : PE X e (Te (kx X Tb) m)) : PS X (.Return (some e) pos) (Ts (kx X Tb) (C.retR m)) := by
  refine ps_imp (ps_ret he) fun D σ H ⟨B, F, rho, om, z, R, f, z', e, k⟩ => ?_
  obtain ⟨x, z1, e1, e2⟩ := bnd_some e
  refine ⟨B, F, rho, om, z, R, x, z1, e1, fun F1 rho1 H1 v s p R1 r1 => ?_⟩
  cases r1 with
  | pure r1 => cases x <;> first | (cases e2; done) | (cases r1; done)
  | @own i a h =>
    dsimp only at e2
    split at e2
    · rename_i d hs
      cases e2
      obtain ⟨a', h1, h2, h5⟩ := R1.sl i _ hs
      rw [h] at h1
      cases h1
      have f0 := R1.freshOwn h
      obtain ⟨R2, q2⟩ := (R1.forget i).share (d := d) f0 h5
      exact k F1 _ _ σ H1 _ s (p.trans (List.prefix_append _ _)) R2 (.ref q2)
    · cases e2
theorem mss_frzD {rest : List Stmt} {b : C} (i : Nat) (h : PSs X rest (Ts (kx X Tb) b)) : PSs X rest (Ts (kx X Tb) (C.seq (C.frzD i) b)) := by
  refine pss_imp (pss_lk h) fun D σ H ⟨B, F, rho, om, z, R, f, z', e, k⟩ => ?_
  unfold C.seq C.frzD at e
  cases hs : z.s[i]? with
  | none =>
    rw [hs] at e
    cases e
  | some x =>
    cases x with
    | own d =>
      rw [hs] at e
      dsimp only at e
      by_cases hd : C.isDict d = true
      · rw [if_pos hd] at e
        have e : b ⟨z.s.set i (.val d), z.h⟩ = some (f, z') := e
        obtain ⟨a, h1, h2, h3⟩ := R.sl i _ hs
        have f0 := R.freshOwn h1
        obtain ⟨u, q1, mu, _, r2⟩ := ob_dict h3 hd
        refine ⟨a, u, q1, mu, fun od => ?_⟩
        obtain ⟨F3, R3, s3, q3⟩ := (R.forget i).lock (u := u) f0 od
        have hσ : σ.set i (some (V.ref a)) = σ := by
          refine List.ext_getElem? fun j => ?_
          by_cases c : j = i
          · subst c
            rw [h2, List.getElem?_set_self (List.getElem?_eq_some_iff.mp h2).1]
          · rw [List.getElem?_set_ne (Ne.symm c)]
        have R4 := R3.setVal i (r2 od s3 (List.prefix_refl _) q3)
        rw [hσ] at R4
        have ez : (⟨(z.s.set i Sl.no).set i (.val d), z.h⟩ : Z) = ⟨z.s.set i (.val d), z.h⟩ := by rw [List.set_set]
        have R4 : Rl (kx X Tb) B _ rho (omSet (omSet om i none) i none) ⟨(z.s.set i Sl.no).set i (.val d), z.h⟩ σ _ := R4
        rw [ez] at R4
        exact ⟨B, _, rho, _, _, R4, f, z', e, k.mono s3 (List.prefix_refl _)⟩
      · rw [if_neg hd] at e
        cases e
    | _ =>
      rw [hs] at e
      cases e
/-! ### {k: v, ..} -/
end
namespace E
def pairs : List (M D × M D) → M (List (Key × D))
  | [] => Mi.ret []
  | (a, b) :: r => bnd a fun x => bnd b fun y => bnd (pairs r) fun ps => match keyD x with
    | some k => if isPure y = true then Mi.ret ((k, y) :: ps) else fun _ => none
    | none => fun _ => none
end E
def mergeG {κ α : Type} [DecidableEq κ] (kvs more : List (κ × α)) : List (κ × α) := more.foldl (fun acc kv => putG acc kv.1 kv.2) kvs
namespace N
def dispK (prs : List (M D × M D)) : M D := bnd (E.pairs prs) fun ps => Mi.ret (.dk (mergeG [] ps))
end N
theorem Rk.merge {K : Kx} {F : Hp} {rho : List Addr} : ∀ {more : List (Key × D)} {es : List (Key × V)} {kvs : List (Key × D)} {vs : List (Key × V)}, Rk K F rho more es → Rk K F rho kvs vs → Rk K F rho (mergeG kvs more) (mergeK vs es)
  | [], es, kvs, vs, r, q => by
    have := r.length
    cases es with
    | nil => exact q
    | cons _ _ => simp at this
  | (j, d) :: more, es, kvs, vs, r, q => by
    obtain ⟨v, es', rfl, h1, h2⟩ := r.uncons
    show Rk K F rho (mergeG (putG kvs j d) more) (mergeK (putK vs j v) es')
    exact Rk.merge h2 (q.put (K := K) (F := F) (rho := rho) j h1)
theorem Rk.mono {K : Kx} {F F' : Hp} {rho rho' : List Addr} {κ : Type} {kvs : List (κ × D)} {es : List (κ × V)} (s : Same F F') (p : rho <+: rho') (r : Rk K F rho kvs es) : Rk K F' rho' kvs es := ⟨r.1, r.2.mono s p⟩
abbrev rPs (K : Kx) : RelT (List (Key × D)) (List (V × V)) := fun _ F rho _ _ ps vs => ∃ es : List (Key × V), vs = es.map (fun kv => (kV kv.1, kv.2)) ∧ Rk K F rho ps es
theorem pairs_go {K : Kx} : ∀ (prs : List (M D × M D)) {B : Bs} {F : Hp} {rho : List Addr} {om : Nat → Option Addr} {z : Z} {σ : L2.St} {H : Hp} {Q : List (V × V) → Hp → Prop}, Go K (rPs K) B F rho om (E.pairs prs) z σ H Q → tPairs (prs.map fun p => (Te K p.1, Te K p.2)) σ H Q
  | [], B, F, rho, om, z, σ, H, Q, g => g.ret _ ⟨[], rfl, .nil⟩
  | (a, b) :: r, B, F, rho, om, z, σ, H, Q, g => by
    have g : Go K (rPs K) B F rho om (bnd a fun x => bnd b fun y => bnd (E.pairs r) fun ps => match keyD x with
      | some k => if isPure y = true then Mi.ret ((k, y) :: ps) else fun _ => none
      | none => fun _ => none) z σ H Q := g
    refine (g.bnd.imp fun _ _ H1 _ _ xv _ _ _ _ _ ⟨F2, rho2, z2, x2, eg1, s1, p1, r1, g1⟩ => ?_).tx (R := rV K)
    refine (g1.bnd.imp fun _ _ H2 _ _ yv _ _ _ _ _ ⟨F3, rho3, z3, y3, eg2, s2, p2, r2, g2⟩ => ?_).tx (R := rV K)
    refine pairs_go r (g2.bnd.imp fun _ _ H4 _ _ vs _ _ _ _ _ ⟨F5, rho5, z5, ps5, eg5, s5, p5, ⟨es, hv, rk⟩, g5⟩ => ?_)
    cases hk : keyD x2 with
    | none =>
      rw [hk] at g5
      obtain ⟨_, _, _, e, _⟩ := g5
      cases e
    | some k =>
      rw [hk] at g5
      dsimp only at g5
      by_cases hp : isPure y3 = true
      · rw [if_pos hp] at g5
        have ex : xv = kV k := by
          cases r1 with
          | pure r1 => exact keyD_ok r1 hk
          | own _ => cases hk
        refine g5.ret _ ⟨(k, yv) :: es, ?_, .cons ((r2.mono s5 p5).of_pure hp) rk⟩
        rw [hv, ex]
        rfl
      · rw [if_neg hp] at g5
        obtain ⟨_, _, _, e, _⟩ := g5
        cases e
section
variable {X : Cx} {Tb : Tbs}
theorem mp_nil {pos : Pos} : PPs X pos [] [] (([] : List (M D × M D)).map fun p => (Te (kx X Tb) p.1, Te (kx X Tb) p.2)) := pps_nil
theorem mp_cons {pos : Pos} {k v : Expr} {ks : List (Option Expr)} {vs : List Expr} {mk mv : M D} {prs : List (M D × M D)} (hk : PE X k (Te (kx X Tb) mk)) (hv : PE X v (Te (kx X Tb) mv)) (hr : PPs X pos ks vs (prs.map fun p => (Te (kx X Tb) p.1, Te (kx X Tb) p.2))) :
    PPs X pos (some k :: ks) (v :: vs) (((mk, mv) :: prs).map fun p => (Te (kx X Tb) p.1, Te (kx X Tb) p.2)) := pps_cons hk hv hr
theorem pairs_len : ∀ {prs : List (M D × M D)} {z z' : Z} {ps : List (Key × D)}, E.pairs prs z = some (ps, z') → ps.length = prs.length
  | [], z, z', ps, h => by cases h; rfl
  | (a, b) :: r, z, z', ps, h => by
    obtain ⟨x, z1, _, h2⟩ := bnd_some h
    obtain ⟨y, z2, _, h4⟩ := bnd_some h2
    obtain ⟨qs, z3, h5, h6⟩ := bnd_some h4
    cases hk : keyD x with
    | none => rw [hk] at h6; cases h6
    | some k =>
      rw [hk] at h6
      dsimp only at h6
      split at h6
      · cases h6
        rw [List.length_cons, List.length_cons, pairs_len h5]
      · cases h6
theorem mn_disp {pos : Pos} {keys : List (Option Expr)} {values : List Expr} {prs : List (M D × M D)} (h : PPs X pos keys values (prs.map fun p => (Te (kx X Tb) p.1, Te (kx X Tb) p.2))) (hall : keys.all (·.isSome) = true := by rfl) (hl : keys.length = values.length := by rfl) (h0 : keys ≠ [] := by exact fun e => nomatch e)
    (h15 : keys.length ≤ 15 := by decide) (hp : prs.length ≤ 15 := by decide) : PE X (.Dict keys values pos) (Tn (kx X Tb) (N.dispK prs)) := by
  refine pe_imp (pe_disp h hall hl h0 h15) fun σ H Q ⟨B, F, rho, om, z, R, d, z', e, k⟩ => ?_
  intro p hnew
  obtain ⟨ps, z1, e1, e2⟩ := bnd_some e
  cases e2
  obtain ⟨R1, f1⟩ := R.new (o := .dK []) hnew
  refine pairs_go prs ⟨R1.reb, ps, _, e1, fun F2 rho2 H2 vs s2 p2 R2 ⟨es, hv, rk⟩ => ?_⟩
  obtain ⟨f2, hH⟩ := f1.through R2 fun _ h => h
  have hl2 := rk.length
  have hl3 := pairs_len e1
  refine ⟨hH.trans upd_same, es, hv, by omega, ?_⟩
  obtain ⟨R3, f3⟩ := (R1.back R2).mutFresh (o := .dK (mergeK [] es)) f2
  exact k F2 rho2 _ _ s2 p2 R3 ⟨p, rfl, f3, _, upd_same, (Rk.merge rk .nil).1, (Rk.merge rk .nil).2⟩
end
/-! ### sorted(d), the dict laid down -/
def dkey : Key → D
  | .inl i => .int i
  | .inr s => .str s
inductive KeyV (H : Hp) : V → D → Prop
  | k (k : Key) : KeyV H (kV k) (dkey k)
  | t (ks : List Key) {q : Addr} : H q = some (.tup (ks.map kV)) → KeyV H (.ref q) (.tup (ks.map dkey))
/-- the keys, as values -/
def dkeys : D → Option (List D)
  | .dk kvs => some (kvs.map fun e => dkey e.1)
  | .dt kvs => some (kvs.map fun e => .tup (e.1.map dkey))
  | _ => none
def rSrtD (K : PySem.W.Frag) : List V → Hp → VK → Prop := fun vs H Q => ∃ (a : Addr) (o : Obj) (ks : List D), vs = [V.ref a] ∧
  ((∃ kvs : List (Key × V), H a = some (.frz o (.dK kvs)) ∧ ks = kvs.map fun e => dkey e.1) ∨ ∃ kvs : List (List Key × V), H a = some (.frz o (.dT kvs)) ∧ ks = kvs.map fun e => .tup (e.1.map dkey)) ∧
  AllAlike (ks.map pk) ∧ PySem.W.Sortable (ks.map pk) ∧ (∀ d ∈ ks, (pk d).depth ≤ 40) ∧ ks.length ≤ sizeLine ∧ ∀ ys p, EachIs (KeyV H) ys (srt pk ks) → H p = none → Q (.ref p) (upd H p (.lst ys))
theorem toP_key (k : Key) : O.toP (dkey k) = some (pk (dkey k)) := by
  cases k <;> rfl
theorem dp_key {K : PySem.W.Frag} {H : Hp} (k : Key) : Dp K H (kV k) (pk (dkey k)) := by
  cases k with
  | inl i => exact .int i
  | inr s => exact .str s
theorem dp_keys {K : PySem.W.Frag} {H : Hp} : ∀ (ks : List Key), DpAll K H (ks.map kV) (ks.map fun k => pk (dkey k))
  | [] => .nil
  | k :: ks => .cons (dp_key k) (dp_keys ks)
theorem toPs_keys : ∀ (ks : List Key), O.toPs (ks.map dkey) = some (ks.map fun k => pk (dkey k))
  | [] => rfl
  | k :: ks => by
    rw [List.map_cons, O.toPs, toP_key, toPs_keys ks]
    rfl
theorem pk_tup (ks : List Key) : pk (.tup (ks.map dkey)) = .tuple (ks.map fun k => pk (dkey k)) := by
  unfold pk
  rw [O.toP, toPs_keys]
  rfl
theorem KeyV.dp {K : PySem.W.Frag} {H : Hp} {v : V} {d : D} (h : KeyV H v d) : Dp K H v (pk d) := by
  cases h with
  | k k => exact dp_key k
  | t ks h =>
    rw [pk_tup]
    exact .tup (SqT.of h) (dp_keys ks)
theorem each_of_get {α β : Type} {R : α → β → Prop} : ∀ {as : List α} {bs : List β}, as.length = bs.length → (∀ (i : Nat) (a : α) (b : β), as[i]? = some a → bs[i]? = some b → R a b) → EachIs R as bs
  | [], [], _, _ => .nil
  | [], _ :: _, h, _ => by simp at h
  | _ :: _, [], h, _ => by simp at h
  | a :: as, b :: bs, h, k => .cons (k 0 a b rfl rfl) (each_of_get (by simpa using h) fun i x y h1 h2 => k (i + 1) x y (by simpa using h1) (by simpa using h2))
section
variable {X : Cx} {Tb : Tbs}
/-- the sort of the keys that were gathered -/
theorem srt_keys {ks : List D} {us : List Value} {s s0 : Shared} {pins : List (Addr × Obj)} {σ : L2.St} {H : Hp} {Q : VK} {h1 : Heap} {tk : Nat} (Iv : Inv X pins σ H s0) (hs : s = { s0 with heap := h1.push (seqObj "list" us.toArray 0), toks := tk }) (kp : ∀ b o, s0.heap.get? b = some o → h1.get? b = some o) (hu : X.A.units + 64 < cLine) (hge : s0.heap.objs.size ≤ h1.objs.size)
    (ea : EachIs (fun u d => ∃ x, RelV x u ∧ KeyV H x d) us ks) (hal : AllAlike (ks.map pk)) (hso : PySem.W.Sortable (ks.map pk)) (hdp : ∀ d ∈ ks, (pk d).depth ≤ 40) (hz : ks.length ≤ sizeLine) (q : ∀ ys p, EachIs (KeyV H) ys (srt pk ks) → H p = none → Q (.ref p) (upd H p (.lst ys))) :
    wpAny (model X.prog X.w) X.A.in1 (call (.builtin "list.sort") [.ref h1.objs.size]) (fun _ s2 => EP X pins σ Q (.ref h1.objs.size) s2) X.xe s := by
  subst hs
  have hp : (h1.push (seqObj "list" us.toArray 0)).get? h1.objs.size = some (seqObj "list" us.toArray 0) := Heap.get?_push_size _ rfl
  have kp2 : ∀ b o, s0.heap.get? b = some o → (h1.push (seqObj "list" us.toArray 0)).get? b = some o := fun b o e => Heap.get?_push_of_some _ (kp b o e)
  have ne : ∀ b o, s0.heap.get? b = some o → b ≠ h1.objs.size := fun b o e => Nat.ne_of_lt (Heap.lt_size (kp b o e))
  have rd : ∀ u d, (∃ x, RelV x u ∧ KeyV H x d) → ∃ as, Reads (h1.push (seqObj "list" us.toArray 0)) u (pk d) as ∧ h1.objs.size ∉ as := by
    rintro u d ⟨x, r, kv⟩
    obtain ⟨as, rr⟩ := Dp.reads Iv (pk d) x u kv.dp r
    exact ⟨as, PyProof.Rows.Reads.keeps kp2 rr, fun c => by
      obtain ⟨o, ho⟩ := PyProof.On.reads_mem_get rr _ c
      exact ne _ _ ho rfl⟩
  have er : EachIs (fun u d => ∃ as, Reads (h1.push (seqObj "list" us.toArray 0)) u (pk d) as ∧ h1.objs.size ∉ as) us ks := ea.mono rd
  refine list_sort_data (R := fun u d => ∃ x, RelV x u ∧ KeyV H x d) hp ea er hal hso hz (fun d hd => ?_) fun out hlen eo => ?_
  · have := hdp d hd
    show X.A.in1.units + 1 + _ < cLine
    have : X.A.in1.units = X.A.units + 1 := rfl
    omega
  · obtain ⟨ys, ry, ey⟩ := each_abs eo
    obtain ⟨c, hc⟩ := sortedHeap_at (vs := us) (out := List.toArray out) hp
    have yl : ys.length ≤ sizeLine := by rw [ry.length, hlen]; exact hz
    exact ⟨.ref _, upd H h1.objs.size (.lst ys), Iv.laid (fun b o e => by rw [sortedHeap_old (ne b o e) (Heap.lt_size (kp2 b o e))]; exact kp2 b o e) hge ⟨yl, out, c, ry, hc⟩, rfl, q _ _ ey (Iv.hok.fresh hge)⟩

/-- the keys of a dict are gathered; the heap has grown -/
theorem gather {prog : Program} {w : World} {A : Around} {E : Value → Shared → Prop} {s : Shared} {T : String} {r d : Addr} {n : Nat} {P : Nat → Value → Prop} {OK : Heap → Prop} {R : List Value → Shared → Prop} (K : KdlSrc prog w T r d n P OK) (hh : A.handled = none) (hok : OK s.heap) (hn : n ≤ sizeLine)
    (h : ∀ (h2 : Heap) (tk : Nat) (us : Array Value), (∀ b o, s.heap.get? b = some o → h2.get? b = some o) → s.heap.objs.size ≤ h2.objs.size → ItemsOf P us n → R us.toList { s with heap := h2, toks := tk }) : wpAny (model prog w) A (collect (.ref r)) R E s := by
  have there := K.there _ hok
  have top : (s.heap.push { cls := .type "list", data := .seq ([] : List Value).toArray }).get? s.heap.objs.size = some { cls := .type "list", data := .seq #[] } := Heap.get?_push_size _ rfl
  have old : ∀ b o, s.heap.get? b = some o → (s.heap.push { cls := .type "list", data := .seq ([] : List Value).toArray }).get? b = some o := fun b o e => Heap.get?_push_of_some _ e
  let W : Result → Shared → Prop := fun q s2 => ∃ (h2 : Heap) (tk : Nat) (us : Array Value) (c : Nat), q = .ok (.ret (.ref s.heap.objs.size)) ∧ s2 = { s with heap := h2, toks := tk } ∧ (∀ b o, s.heap.get? b = some o → h2.get? b = some o) ∧
    h2.get? s.heap.objs.size = some { cls := .type "list", dict := none, data := .seq us c, slots := #[] } ∧ ItemsOf P us n
  have fin : ∀ {q : Result} {s2 : Shared} {f : PySem.Flow}, W q s2 → q = .ok f → ∃ (h2 : Heap) (tk : Nat) (us : Array Value) (c : Nat), f = .ret (.ref s.heap.objs.size) ∧ s2 = { s with heap := h2, toks := tk } ∧ h2.get? s.heap.objs.size = some { cls := .type "list", dict := none, data := .seq us c, slots := #[] } ∧ R us.toList s2 := by
    rintro q s2 f ⟨h2, tk, us, c, rfl, rfl, kp, at2, it⟩ e
    cases e
    exact ⟨h2, tk, us, c, rfl, rfl, at2, h h2 tk us kp (Nat.le_of_lt (Heap.lt_size at2)) it⟩
  have loop := kdl_extend (A := A) (s := { s with heap := s.heap.push { cls := .type "list", data := .seq ([] : List Value).toArray } }) (R := W) K hh (K.keep _ _ hok fun b _ o e => old b o e) s.heap.objs.size (Nat.ne_of_gt there.1) (Nat.ne_of_gt there.2) (.ref s.heap.objs.size) 0 top
    (fun h2 tk us c kp at2 it => ⟨h2, tk, us, c, rfl, rfl, fun b o e => kp b o (Nat.ne_of_lt (Heap.lt_size e)) (old b o e), at2, it⟩) hn
  unfold collect
  apply wpAny_bind
  apply wpAny_runValue
  apply codeAny_builtin entry_proto_collect'
  rw [Around.under_plainId PySem.F.plain_proto_collect]
  show wpAny _ A.in1 (newList [] >>= fun l => again (.builtin "list.__iadd__" ⟨[l, .ref r], []⟩)) _ _ s
  apply wpAny_bind
  refine wpAny_newObj_type (wpAny_pure ⟨plainId_quiet PySem.F.plain_list_iadd _, ?_⟩)
  apply codeAny_builtin entry_list_iadd'
  rw [Around.under_plainId PySem.F.plain_list_iadd]
  show wpAny _ A.in1 (Builtin.List.listExtendWith (.ref s.heap.objs.size) (.ref r) (.ref s.heap.objs.size)) _ _ _
  refine wpAny_mono loop (fun g s2 x => ?_) fun e s2 x => ?_
  · cases g with
    | done f =>
      obtain ⟨h2, tk, us, c, rfl, rfl, at2, q⟩ := fin x rfl
      show wpAny _ A (load s.heap.objs.size >>= _) _ _ _
      exact wpAny_bind (wpAny_load at2 (wpAny_pure q))
    | again g =>
      refine ⟨x.1, codeAny_mono x.2 fun q s3 y => ?_⟩
      cases q with
      | error e =>
        obtain ⟨_, _, _, _, e, _⟩ := y
        cases e
      | ok f =>
        obtain ⟨h2, tk, us, c, rfl, rfl, at2, q⟩ := fin y rfl
        show wpAny _ A (load s.heap.objs.size >>= _) _ _ _
        exact wpAny_bind (wpAny_load at2 (wpAny_pure q))
  · obtain ⟨_, _, _, _, e, _⟩ := x
    cases e
theorem call_srtD (hc : X.calm = true) (hu : X.A.units + 64 < cLine) : CallR X (.builtin "sorted") (rSrtD X.K) := by
  intro pn st sg Hh args raws Qq Iv rr hyp
  obtain ⟨a, o, ks, rfl, src, hal, hso, hdp, hz, q⟩ := hyp
  rw [Vals.ref1 rr]
  have hh : X.A.handled = none := Iv.ok.hd hc
  have raw : (a == sysModules) = false ∧ ∃ (es : Array DictEntry) (ep : Nat), st.heap.DictRaw a es ep ∧ es.size = ks.length ∧ ∀ (i : Nat) (en : DictEntry) (d : D), es[i]? = some en → ks[i]? = some d → ∃ x, RelV x en.key ∧ KeyV Hh x d := by
    rcases src with ⟨kvs, e, rfl⟩ | ⟨kvs, e, rfl⟩
    · obtain ⟨h1, h2, h3, es, ep, vs, h4, h5, h6, h7⟩ := Iv.frzK e
      refine ⟨h1, es, ep, ⟨o, h2, h3, h4⟩, by rw [h5, List.length_map], fun i en d he hd => ?_⟩
      rw [List.getElem?_map] at hd
      cases hk : kvs[i]? with
      | none => rw [hk] at hd; cases hd
      | some kv =>
        rw [hk] at hd
        cases hd
        obtain ⟨es2, r1, r2, r3⟩ := Heap.DictAt.raw h7
        have r1' := r1
        obtain ⟨o2, g1, _, g3⟩ := r1'
        rw [h2] at g1
        cases g1
        rw [h4] at g3
        cases g3
        obtain ⟨u, hu1, hu2⟩ := kv_get h6 (show kvs[i]? = some (kv.1, kv.2) from hk)
        obtain ⟨hi, e2⟩ := Array.getElem?_eq_some_iff.mp he
        obtain ⟨m1, m2⟩ := r3 i hi kv.1 u hu1
        rw [e2] at m1
        exact ⟨_, relV_key m1, .k kv.1⟩
    · obtain ⟨h1, h2, h3, es, ep, h4, h5, h6⟩ := Iv.frzT e
      refine ⟨h1, es, ep, ⟨o, h2, h3, h4⟩, by rw [h5, List.length_map], fun i en d he hd => ?_⟩
      rw [List.getElem?_map] at hd
      cases hk : kvs[i]? with
      | none => rw [hk] at hd; cases hd
      | some kv =>
        rw [hk] at hd
        cases hd
        obtain ⟨en2, q2, g1, g2, g3⟩ := h6 i kv.1 kv.2 hk
        rw [he] at g1
        cases g1
        exact ⟨.ref q2, g2, .t kv.1 g3⟩
  obtain ⟨hs, es, ep, hr, hsz, hkey⟩ := raw
  apply PySem.Calls.call_function_entry kind_sorted plain_sorted entry_sorted (args_sorted1 _)
  unfold Builtin.«sorted»
  apply wpAny_bind (m := checkCount "sorted" 1 1 _)
  apply wpAny_pure
  apply wpAny_bind
  refine gather (A := X.A.in1) (KdlSrc.rawDict (es := es) (ep := ep) hs) hh hr (by omega) fun h2 tk us kp hge it => ?_
  have hl : us.toList.length = ks.length := by rw [Array.length_toList, it.1, hsz]
  have ea : EachIs (fun u d => ∃ x, RelV x u ∧ KeyV Hh x d) us.toList ks := by
    refine each_of_get hl fun i u d h1 h3 => ?_
    obtain ⟨hi, e⟩ := it.2 i u (by rw [← Array.getElem?_toList]; exact h1)
    refine hkey i es[i] d (Array.getElem?_eq_some_iff.mpr ⟨hi, rfl⟩) h3 |>.imp fun x hx => ?_
    rw [e]
    exact hx
  apply wpAny_bind
  refine wpAny_newList ?_ (by rw [hl]; exact hz)
  have fin := srt_keys (us := us.toList) (tk := tk) Iv rfl kp hu hge ea hal hso hdp hz q
  apply wpAny_bind
  apply wpAny_holding
  refine wpAny_mono fin (fun f s3 x => ?_) fun _ _ e => e
  exact wpAny_pure ⟨_, rfl, x⟩

end
namespace N
def sortedD (m : M D) : M (List D) := bnd m fun x z => match dkeys x with
  | some ks => if ks.length ≤ szl ∧ srtOk (ks.map pk) = true then some (srt pk ks, z) else none
  | none => none
/-- xs[::-1] -/
def rev (m : M D) : M (List D) := bnd m fun x z => match cont x z with
  | some (false, ds) => some (ds.reverse, z)
  | _ => none
end N
namespace I
/-- for k in d, the dict laid down -/
def seqK (a : M D) : M It := bnd a fun x z => match dkeys x with
  | some ks => some (⟨ks, none⟩, z)
  | none => none
end I
namespace E
/-- t[lo:hi], not the whole of it -/
def cutT (a : M D) (lo hi : Option (M D)) : M D := bnd a fun x => bnd (N.part lo) fun l => bnd (N.part hi) fun u z => match x with
  | .tup ds => if HT.sIx ds.length 0 l = 0 ∧ HT.sIx ds.length ds.length u = ds.length then none else some (.tup (N.cutL ds l u), z)
  | _ => none
end E
namespace O
/-- t + u, neither empty -/
def catT : D → D → Z → Option D
  | .tup ds, .tup es, _ => if ds ≠ [] ∧ es ≠ [] ∧ ds.length + es.length < szl then some (.tup (ds ++ es)) else none
  | _, _, _ => none
end O
theorem rp_key {K : Kx} {F : Hp} {rho : List Addr} (k : Key) : Rp K F rho (dkey k) (kV k) := by
  cases k with
  | inl i => exact .int i
  | inr s => exact .str s
theorem rps_keys {K : Kx} {F : Hp} {rho : List Addr} : ∀ (ks : List Key), Rps K F rho (ks.map dkey) (ks.map kV)
  | [] => .nil
  | k :: ks => .cons (rp_key k) (rps_keys ks)
theorem rk_keys {K : Kx} {F : Hp} {rho : List Addr} {κ : Type} {kvs : List (κ × D)} {es : List (κ × V)} (h : es.map Prod.fst = kvs.map Prod.fst) (f : κ → D) : (kvs.map fun e => f e.1) = es.map fun e => f e.1 := by
  have e1 : (kvs.map fun e => f e.1) = (kvs.map Prod.fst).map f := by rw [List.map_map]; rfl
  have e2 : (es.map fun e => f e.1) = (es.map Prod.fst).map f := by rw [List.map_map]; rfl
  rw [e1, e2, h]
/-- keys that were gathered are known from now on -/
theorem lay_keys {K : Kx} {B : Bs} {rho : List Addr} {om : Nat → Option Addr} {z : Z} {σ : L2.St} {H : Hp} : ∀ {ys : List V} {ds : List D} {F : Hp}, Rl K B F rho om z σ H → EachIs (KeyV H) ys ds → ∃ F', Rl K B F' rho om z σ H ∧ Same F F' ∧ Rps K F' rho ds ys
  | [], [], F, R, .nil => ⟨F, R, Same.refl _, .nil⟩
  | v :: ys, d :: ds, F, R, .cons h t => by
    cases h with
    | k k =>
      obtain ⟨F', R', s, r⟩ := lay_keys R t
      exact ⟨F', R', s, .cons (rp_key k) r⟩
    | t ks hq =>
      obtain ⟨F1, R1, s1, q1, _⟩ := R.layT hq
      obtain ⟨F', R', s, r⟩ := lay_keys R1 t
      exact ⟨F', R', s1.trans s, .cons (.tup (s _ _ q1) (rps_keys ks)) r⟩
theorem KeyV.upd {H : Hp} {p : Addr} {o : HO} (hp : H p = none) {v : V} {d : D} (h : KeyV H v d) : KeyV (upd H p o) v d := by
  cases h with
  | k k => exact .k k
  | t ks hq => exact .t ks (by rw [upd_ne (ne_of_none hq hp)]; exact hq)
section
variable {X : Cx} {Tb : Tbs}
theorem dkeys_ok {K : Kx} {F H : Hp} {rho : List Addr} {d : D} {v : V} {ks : List D} (s : Same F H) (r : Rp K F rho d v) (h : dkeys d = some ks) : ∃ (a : Addr) (o : Obj), v = .ref a ∧
    ((∃ kvs : List (Key × V), F a = some (.frz o (.dK kvs)) ∧ ks = kvs.map fun e => dkey e.1) ∨ ∃ kvs : List (List Key × V), F a = some (.frz o (.dT kvs)) ∧ ks = kvs.map fun e => .tup (e.1.map dkey)) := by
  cases r with
  | @dk a es kvs o h1 h2 h3 =>
    cases h
    exact ⟨a, o, rfl, .inl ⟨es, h1, rk_keys (K := K) (F := F) (rho := rho) h2 dkey⟩⟩
  | @dt a es kvs o h1 h2 h3 =>
    cases h
    exact ⟨a, o, rfl, .inr ⟨es, h1, rk_keys (K := K) (F := F) (rho := rho) h2 fun k => .tup (k.map dkey)⟩⟩
  | _ => cases h
theorem mf_sortedD {p pos : Pos} {e : Expr} {m : M D} (hc : X.calm = true) (hu : X.A.units + 64 < cLine) (hg : Gl X "sorted") (hm : X.mg "sorted" = none) (ha : PE X e (Te (kx X Tb) m)) (hv : bootBuiltins "sorted" = some (.builtin "sorted") := by decide +kernel)
    (he : starEach [e] X.env = (false, eval e X.env) :: starEach [] X.env := by rfl) (hpl : (backTo pos (starEach [] X.env)).any (·.1) = false := by rfl) : PE X (.Call (.Name "sorted" p) [e] [] pos) (Tf (kx X Tb) (N.sortedD m)) := by
  refine pe_imp (pe_callB (call_srtD hc hu) hg hm hv (pa_cons ha pa_nil he) (by decide) (by decide) he hpl) fun σ H Q ⟨B, F, rho, om, z, g⟩ => ?_
  refine (g.bnd.imp fun _ _ H1 _ _ v _ _ _ _ _ ⟨F2, rho2, z2, x, eg1, s1, p1, r1, g1⟩ => ?_).tx (R := rV (kx X Tb))
  obtain ⟨R, d, z4, e, k⟩ := g1
  dsimp only at e
  split at e
  · rename_i ks hk
    split at e
    · rename_i c
      cases e
      cases r1 with
      | own _ => cases hk
      | pure r1 =>
        obtain ⟨a, o, rfl, src⟩ := dkeys_ok R.rh.fro r1 hk
        obtain ⟨c1, c2⟩ := c
        unfold srtOk at c2
        rw [Bool.and_eq_true, Bool.and_eq_true] at c2
        refine ⟨a, o, ks, rfl, ?_, alikeB_ok c2.1.1, sortB_ok c2.1.2, fun d hd => of_decide_eq_true (List.all_eq_true.mp c2.2 _ (List.mem_map_of_mem hd)), Nat.le_trans c1 szl_line, fun ys l ey hl => ?_⟩
        · rcases src with ⟨kvs, h1, h2⟩ | ⟨kvs, h1, h2⟩
          · exact .inl ⟨kvs, R.rh.fro _ _ h1, h2⟩
          · exact .inr ⟨kvs, R.rh.fro _ _ h1, h2⟩
        · obtain ⟨F3, R3, s3, q3⟩ := lay_keys R ey
          obtain ⟨R4, f4⟩ := R3.new (o := .lst ys) hl
          exact k F3 rho2 _ _ s3 (List.prefix_refl _) R4 ⟨l, ys, rfl, upd_same, f4, q3⟩
    · cases e
  · cases e
theorem mi_seqK {tg l : Expr} {m : M D} (hl : PE X l (Te (kx X Tb) m)) : PI X tg l (Ti (kx X Tb) (I.seqK m)) := by
  refine pi_imp (pi_keys hl) fun σ H R ⟨B, F, rho, om, z, Rr, it, z', e, k⟩ => ?_
  obtain ⟨x, z1, e1, e2⟩ := bnd_some e
  refine ⟨B, F, rho, om, z, Rr, x, z1, e1, fun F1 rho1 H1 v s1 p1 R1 r1 => ?_⟩
  try dsimp only at e2
  split at e2
  · rename_i ks hk
    cases e2
    cases r1 with
    | own _ => cases hk
    | pure r1 =>
      obtain ⟨a, o, rfl, src⟩ := dkeys_ok R1.rh.fro r1 hk
      rcases src with ⟨kvs, h1, rfl⟩ | ⟨kvs, h1, rfl⟩
      · refine ⟨a, o, rfl, .inl ⟨kvs, R1.rh.fro _ _ h1, k F1 rho1 H1 _ s1 p1 R1 ?_⟩⟩
        intro B2 F2 rho2 om2 z2 σ2 H2 s p R2 _ _
        have at2 : H2 a = some (.frz o (.dK kvs)) := R2.rh.fro _ _ (s _ _ h1)
        refine ⟨fun i hi => ⟨at2, by simpa using hi⟩, fun i d hd => ?_⟩
        have hi : i < kvs.length := by
          have := (List.getElem?_eq_some_iff.mp hd).1
          simpa using this
        refine ⟨⟨at2, hi⟩, fun x H3 ⟨e, kk, v, h2, h3⟩ => ⟨e, F2, Same.refl _, fun _ _ _ _ n => n, R2, ?_⟩⟩
        have hd : (kvs.map fun e => dkey e.1)[i]? = some d := hd
        rw [List.getElem?_map, h2] at hd
        cases hd
        rw [h3]
        exact rp_key kk
      · refine ⟨a, o, rfl, .inr ⟨kvs, R1.rh.fro _ _ h1, k F1 rho1 H1 _ s1 p1 R1 ?_⟩⟩
        intro B2 F2 rho2 om2 z2 σ2 H2 s p R2 _ _
        have at2 : H2 a = some (.frz o (.dT kvs)) := R2.rh.fro _ _ (s _ _ h1)
        refine ⟨fun i hi => ⟨at2, by simpa using hi⟩, fun i d hd => ?_⟩
        have hi : i < kvs.length := by
          have := (List.getElem?_eq_some_iff.mp hd).1
          simpa using this
        refine ⟨⟨at2, hi⟩, fun x H3 ⟨e, kk, v, q, h2, h3, h4⟩ => ⟨e, ?_⟩⟩
        have hd : (kvs.map fun e => D.tup (e.1.map dkey))[i]? = some d := hd
        rw [List.getElem?_map, h2] at hd
        cases hd
        rw [h3]
        obtain ⟨F3, R3, s3, q3, n3⟩ := R2.layT h4
        exact ⟨F3, s3, n3, R3, .tup q3 (rps_keys kk)⟩
  · cases e2
theorem seqK_noOwn {m : M D} : noOwn (I.seqK m) := by
  intro z it z' j h
  obtain ⟨x, z1, e1, e2⟩ := bnd_some h
  intro q
  try dsimp only at e2
  split at e2
  · cases e2; cases q
  · cases e2
/-! ### xs[::-1] -/
theorem vals_app {xs ys : List V} {us ws : List Value} (h : Vals xs us) (g : Vals ys ws) : Vals (xs ++ ys) (us ++ ws) := by
  induction h with
  | nil => exact g
  | cons a t ih => exact .cons a ih
theorem vals_rev' {xs : List V} {us : List Value} (h : Vals xs us) : Vals xs.reverse us.reverse := by
  induction h with
  | nil => exact .nil
  | cons a t ih =>
    rw [List.reverse_cons, List.reverse_cons]
    exact vals_app ih (.cons a .nil)
theorem pe_rev {e : Expr} {te : TE} {p1 p2 p3 pos : Pos} {j} (he : PE X e te) : PE X (.Subscript e (.Slice none none (some (.UnaryOp .USub (.Constant (.int 1) j p1) p3)) p2) pos) fun σ H Q => te σ H fun x H1 => ∃ a xs, x = .ref a ∧ SqL X.K H1 a xs ∧ ∀ p, H1 p = none → Q (.ref p) (upd H1 p (.lst xs.reverse)) := by
  have hst : PE X (.UnaryOp .USub (.Constant (.int 1) j p1) p3) fun _ H Q => Q (.int (-1)) H := pe_imp (pe_un un_neg pe_int) fun σ H Q q => ⟨1, rfl, q⟩
  refine ⟨fun pins s σ H Q I h => ?_⟩
  refine Subscript_ (thn (he.run pins s σ H _ I h) fun v s1 ⟨x, H1, I1, r1, a, xs, ex, hx, q⟩ => ?_)
  subst ex
  have r1 : v = Value.ref a := r1
  rw [r1]
  apply wpAny_Slice
  rw [evalPart_none]
  apply wpAny_pure
  apply wpAny_pure
  rw [evalPart_some]
  refine thn (hst.run pins s1 σ H1 (fun w H2 => w = .int (-1) ∧ H2 = H1) I1 ⟨rfl, rfl⟩) fun u s3 ⟨w, H3, I3, rw3, e1, e2⟩ => ?_
  subst e1 e2
  obtain ⟨t, rfl⟩ := rw3
  have I4 : Inv X pins σ H3 { s3 with heap := s3.heap.push { cls := .type "slice", data := .fields #[.none, .none, .int (-1) t] } } := I3.kept (t' := s3.toks) fun b ob q => Heap.get?_push_of_some _ q
  obtain ⟨its, rv, p, hz0⟩ := I4.list hx
  have hz : its.length ≤ sizeLine := by rw [← rv.length]; exact hz0
  show wpAny (model X.prog X.w) X.A (subscriptTail e (.Slice none none (some (.UnaryOp .USub (.Constant (.int 1) j p1) p3)) p2) (.ref a) (.ref s3.heap.objs.size)) (EP X pins σ Q) X.xe { s3 with heap := s3.heap.push { cls := .type "slice", data := .fields #[.none, .none, .int (-1) t] } }
  refine tail_any (ops := [.ref a, .ref s3.heap.objs.size]) p.isList.typeIs list_getitem_lookup ?_ (by with_unfolding_all rfl)
  refine wpAny_getItem_list_slice (lo := none) (hi := none) (st := some (-1)) p.isList (Heap.IsSliceOf.new _ _ _ _) .none .none (.int (-1) t) (by decide) ?_ (by rw [List.size_toArray]; exact hz)
  rw [krv_pick]
  have hl : xs.reverse.length ≤ sizeLine := by rw [List.length_reverse, rv.length]; exact hz
  refine ⟨.ref _, _, I4.laid (o := .lst xs.reverse) (t' := s3.toks) (fun b ob q => Heap.get?_push_of_some _ q) (Nat.le_refl _) ⟨hl, its.reverse, 0, ?_, ?_⟩, rfl, q _ (I4.hok.fresh (Nat.le_refl _))⟩
  · exact vals_rev' rv
  · have e : (List.toArray its).toList.reverse = its.reverse := rfl
    rw [e]
    exact Heap.get?_push_size _ rfl
theorem mf_rev {e : Expr} {p1 p2 p3 pos : Pos} {j} {m : M D} (he : PE X e (Te (kx X Tb) m)) : PE X (.Subscript e (.Slice none none (some (.UnaryOp .USub (.Constant (.int 1) j p1) p3)) p2) pos) (Tf (kx X Tb) (N.rev m)) := by
  refine pe_imp (pe_rev he) fun σ H Q ⟨B, F, rho, om, z, g⟩ => ?_
  refine (g.bnd.imp fun _ _ H1 _ _ v _ _ _ _ _ ⟨F2, rho2, z2, x, eg1, s1, p1, r1, g1⟩ => ?_).tx (R := rV (kx X Tb))
  obtain ⟨R, d, z4, e, k⟩ := g1
  dsimp only at e
  split at e
  · rename_i ds hc
    cases e
    obtain ⟨a, xs, rfl, q, h⟩ := cont_ok R r1 hc
    rcases h with ⟨_, h⟩ | ⟨h8, _⟩
    · refine ⟨a, xs, rfl, h, fun p hp => ?_⟩
      obtain ⟨R2, f2⟩ := R.new (o := .lst xs.reverse) hp
      exact k F2 rho2 _ _ (Same.refl _) (List.prefix_refl _) R2 ⟨p, _, rfl, upd_same, f2, q.reverse⟩
    · cases h8
  · cases e
/-! ### t[lo:hi], t + u -/
theorem me_cutT {e : Expr} {lo hi : Option Expr} {p2 pos : Pos} {m : M D} {ml mh : Option (M D)} (he : PE X e (Te (kx X Tb) m)) (hl : PO X lo (To (kx X Tb) (N.part ml))) (hu : PO X hi (To (kx X Tb) (N.part mh))) : PE X (.Subscript e (.Slice lo hi none p2) pos) (Te (kx X Tb) (E.cutT m ml mh)) := by
  refine pe_imp (pe_slice sl_tup he hl hu) fun σ H Q ⟨B, F, rho, om, z, g⟩ => ?_
  refine (g.bnd.imp fun _ _ H1 _ _ v _ _ _ _ _ ⟨F2, rho2, z2, x, eg1, s1, p1, r1, g1⟩ => ?_).tx (R := rV (kx X Tb))
  refine (g1.bnd.imp fun _ _ H3 _ _ l _ _ _ _ _ ⟨F4, rho4, z4, l', eg2, s2, p2, r2, g2⟩ => ?_).tx (R := rO)
  refine (g2.bnd.imp fun _ _ H5 _ _ u _ _ _ _ _ ⟨F6, rho6, z6, u', eg3, s3, p3, r3, g3⟩ => ?_).tx (R := rO)
  have r2 : l = l' := r2
  have r3 : u = u' := r3
  subst r2 r3
  obtain ⟨R, d, z7, e, k⟩ := g3
  dsimp only at e
  split at e
  · rename_i ds
    split at e
    · cases e
    · rename_i hw
      cases e
      cases (r1.mono s2 p2).mono s3 p3 with
      | pure r =>
        cases r with
        | @tup a xs _ h q =>
          have hlen := q.length
          refine ⟨a, xs, rfl, SqT.of (R.rh.fro _ _ h), by rw [← hlen]; exact hw, fun p hp => ?_⟩
          obtain ⟨F7, R7, s7, q7⟩ := R.alloc (o := .tup (cutV xs l u)) hp
          exact k F7 rho6 _ _ s7 (List.prefix_refl _) R7 (.pure (.tup q7 ((cut_rps q l u).mono s7 (List.prefix_refl _))))
  · cases e
theorem o_catT : OpM X (binaryOp .Add) O.catT := by
  refine ⟨_, op_catT, ?_⟩
  intro Tb B F rho om z σ H x y xv yv d R rx ry e Q k
  unfold O.catT at e
  split at e
  · rename_i ds es
    split at e
    · rename_i c
      cases e
      cases rx with
      | pure rx =>
        cases rx with
        | @tup a xs _ h q =>
          cases ry with
          | pure ry =>
            cases ry with
            | @tup b ys _ h2 q2 =>
              have l1 := q.length
              have l2 := q2.length
              refine ⟨a, b, xs, ys, rfl, rfl, SqT.of (R.rh.fro _ _ h), SqT.of (R.rh.fro _ _ h2), ?_, ?_, fun e => ?_, fun _ p hp => ?_⟩
              · intro e
                subst e
                exact c.1 (List.length_eq_zero_iff.mp l1)
              · rw [← l1, ← l2]
                exact Nat.le_of_lt (szl_ok c.2.2)
              · subst e
                exact absurd (List.length_eq_zero_iff.mp l2) c.2.1
              · obtain ⟨F7, R7, s7, q7⟩ := R.alloc (o := .tup (xs ++ ys)) hp
                exact k F7 _ _ s7 R7 (.pure (.tup q7 ((q.append q2).mono s7 (List.prefix_refl _))))
    · cases e
  · cases e
end
end Mi

set_option Elab.async false
set_option linter.all false
set_option maxRecDepth 100000
/-! Mi, part M: working out dicts. -/
namespace Mi
open PySem PySem.Spec PyProof.Rows L2
section
variable {z z1 z2 z3 : Z} {a b c e : M D} {x y w d cc : D} {s s' : List Sl} {h h' : List D} {o : Option D}
theorem ev_dix (h1 : a z = some (x, z1)) (h2 : b z1 = some (y, z2)) (h3 : dcont x z2 = some cc) (h4 : dgetC cc y = some (some d)) : E.op O.dix a b z = some (d, z2) := ev_op h1 h2 (by unfold O.dix dget; rw [h3]; dsimp only; rw [h4])
theorem ev_din (h1 : a z = some (x, z1)) (h2 : b z1 = some (y, z2)) (h3 : dcont y z2 = some cc) (h4 : dgetC cc x = some o) : E.op O.din a b z = some (.bl o.isSome, z2) := ev_op h1 h2 (by unfold O.din dget; rw [h3]; dsimp only; rw [h4])
theorem ev_dnotIn (h1 : a z = some (x, z1)) (h2 : b z1 = some (y, z2)) (h3 : dcont y z2 = some cc) (h4 : dgetC cc x = some o) : E.op O.dnotIn a b z = some (.bl (!o.isSome), z2) := ev_op h1 h2 (by unfold O.dnotIn dget; rw [h3]; dsimp only; rw [h4])
theorem ev_get1 (h1 : a z = some (x, z1)) (h0 : (dcont x z1).isSome = true) (h2 : b z1 = some (y, z2)) (h3 : dcont x z2 = some cc) (h4 : dgetC cc y = some o) : E.get1 a b z = some (o.getD .non, z2) := by
  unfold E.get1
  rw [bnd_of h1]
  try dsimp only
  rw [if_pos h0, bnd_of h2]
  unfold dget
  rw [h3]
  dsimp only
  rw [h4]
theorem ev_get2 (h1 : a z = some (x, z1)) (h0 : (dcont x z1).isSome = true) (h2 : b z1 = some (y, z2)) (h5 : c z2 = some (w, z3)) (hw : isPure w = true) (h3 : dcont x z3 = some cc) (h4 : dgetC cc y = some o) : E.get2 a b c z = some (o.getD w, z3) := by
  unfold E.get2
  rw [bnd_of h1]
  try dsimp only
  rw [if_pos h0, bnd_of h2, bnd_of h5, if_pos hw]
  unfold dget
  rw [h3]
  dsimp only
  rw [h4]
theorem ev_shrN {m : M D} (h1 : m z = some (d, ⟨s, h⟩)) : E.shrN m z = some (.ref h.length, ⟨s, h ++ [d]⟩) := by
  unfold E.shrN
  rw [bnd_of h1]
theorem ev_frzD {m : M D} (h1 : m z = some (d, z1)) (h2 : C.isDict d = true) : E.frzD m z = some (d, z1) := by
  unfold E.frzD
  rw [bnd_of h1, if_pos h2]
  rfl
theorem ev_pairs0 : E.pairs [] z = some ([], z) := rfl
theorem ev_pairs {r : List (M D × M D)} {k : Key} {ps : List (Key × D)} (h1 : a z = some (x, z1)) (h2 : b z1 = some (y, z2)) (h3 : E.pairs r z2 = some (ps, z3)) (hk : keyD x = some k) (hp : isPure y = true) : E.pairs ((a, b) :: r) z = some ((k, y) :: ps, z3) := by
  show bnd a _ z = _
  rw [bnd_of h1, bnd_of h2, bnd_of h3, hk]
  dsimp only
  rw [if_pos hp]
  rfl
theorem ev_dispK {prs : List (M D × M D)} {ps : List (Key × D)} (h1 : E.pairs prs z = some (ps, z1)) : N.dispK prs z = some (.dk (mergeG [] ps), z1) := by
  unfold N.dispK
  rw [bnd_of h1]
  rfl
theorem ev_sortedD {ks : List D} (h1 : a z = some (x, z1)) (h2 : dkeys x = some ks) (h3 : ks.length ≤ szl) (h4 : srtOk (ks.map pk) = true) : N.sortedD a z = some (srt pk ks, z1) := by
  unfold N.sortedD
  rw [bnd_of h1, h2]
  dsimp only
  rw [if_pos ⟨h3, h4⟩]
theorem ev_rev {ds : List D} (h1 : a z = some (x, z1)) (h2 : cont x z1 = some (false, ds)) : N.rev a z = some (ds.reverse, z1) := by
  unfold N.rev
  rw [bnd_of h1, h2]
theorem ev_cutT {lo hi : Option (M D)} {l u : Option Int} {ds : List D} (h1 : a z = some (.tup ds, z1)) (h2 : N.part lo z1 = some (l, z2)) (h3 : N.part hi z2 = some (u, z3)) (h4 : ¬ (HT.sIx ds.length 0 l = 0 ∧ HT.sIx ds.length ds.length u = ds.length)) : E.cutT a lo hi z = some (.tup (N.cutL ds l u), z3) := by
  unfold E.cutT
  rw [bnd_of h1, bnd_of h2, bnd_of h3]
  dsimp only
  rw [if_neg h4]
theorem ev_catT {ds es : List D} (h1 : a z = some (.tup ds, z1)) (h2 : b z1 = some (.tup es, z2)) (h3 : ds ≠ []) (h4 : es ≠ []) (h5 : ds.length + es.length < szl) : E.op O.catT a b z = some (.tup (ds ++ es), z2) := ev_op h1 h2 (by unfold O.catT; exact if_pos ⟨h3, h4, h5⟩)
theorem ev_seqK {ks : List D} (h1 : a z = some (x, z1)) (h2 : dkeys x = some ks) : I.seqK a z = some (⟨ks, none⟩, z1) := by
  unfold I.seqK
  rw [bnd_of h1, h2]
theorem ev_seqR {n : Nat} {t : Bool} {xs : List D} (h1 : a z = some (.ref n, z1)) (h2 : cont (.ref n) z1 = some (t, xs)) : I.seq a z = some (⟨xs, some (.ref n)⟩, z1) := by
  unfold I.seq
  rw [bnd_of h1]
  dsimp only
  rw [h2]
theorem ev_seqCR {n : Nat} {t : Bool} {xs : List D} (h1 : a z = some (.ref n, z1)) (h2 : cont (.ref n) z1 = some (t, xs)) : I.seqC a z = some (⟨xs, some (.ref n)⟩, z1) := by
  unfold I.seqC
  rw [bnd_of h1]
  show (match cont (.ref n) z1 with | some (_, xs) => some ((⟨xs, some (.ref n)⟩ : It), z1) | none => none) = _
  rw [h2]
/-! leaves -/
theorem lf_dcont {r : Option D} (q : dcont x z = r) : dcont x z = r := q
theorem lf_dcS {r : Bool} (q : (dcont x z).isSome = r) : (dcont x z).isSome = r := q
theorem lf_dgetC {r : Option (Option D)} (q : dgetC x y = r) : dgetC x y = r := q
theorem lf_keyD {r : Option Key} (q : keyD x = r) : keyD x = r := q
theorem lf_isDict {r : Bool} (q : C.isDict x = r) : C.isDict x = r := q
theorem lf_dkeys {r : Option (List D)} (q : dkeys x = r) : dkeys x = r := q
/-! statements -/
theorem cs_dputO {n : Nat} {c' v : D} (h1 : e z = some (v, z1)) (h2 : a z1 = some (.own n, z2)) (h3 : b z2 = some (y, ⟨s, h⟩)) (h4 : s[n]? = some (.own cc)) (h5 : dputC cc y v = some c') (hp : isPure v = true) (hs : s.set n (.own c') = s') : C.dput a b e z = some (.nx, ⟨s', h⟩) := by
  subst hs
  unfold C.dput
  rw [bnd_of h1, bnd_of h2, bnd_of h3, if_pos hp]
  dsimp only
  rw [h4]
  dsimp only
  rw [h5]
theorem cs_dputR {n : Nat} {c' v : D} (h1 : e z = some (v, z1)) (h2 : a z1 = some (.ref n, z2)) (h3 : b z2 = some (y, ⟨s, h⟩)) (h4 : h[n]? = some cc) (h5 : dputC cc y v = some c') (hp : isPure v = true) : C.dput a b e z = some (.nx, ⟨s, h.set n c'⟩) := by
  unfold C.dput
  rw [bnd_of h1, bnd_of h2, bnd_of h3, if_pos hp]
  dsimp only
  rw [h4]
  dsimp only
  rw [h5]
theorem cs_ownD {n : Nat} {m : M D} (h1 : m z = some (d, ⟨s, h⟩)) (hl : n < s.length) (hs : s.set n (.own d) = s') : C.ownN n m z = some (.nx, ⟨s', h⟩) := by
  subst hs
  unfold C.ownN
  rw [bnd_of h1]
  exact if_pos hl
theorem cs_frzD {n : Nat} (h1 : s[n]? = some (.own d)) (h2 : C.isDict d = true) (hs : s.set n (.val d) = s') : C.frzD n ⟨s, h⟩ = some (.nx, ⟨s', h⟩) := by
  subst hs
  unfold C.frzD
  dsimp only
  rw [h1]
  dsimp only
  rw [if_pos h2]
theorem cs_retD {n : Nat} (h1 : e z = some (.own n, ⟨s, h⟩)) (h2 : s[n]? = some (.own d)) (h3 : C.isDict d = true) : C.retD e z = some (.rt d, ⟨s.set n .no, h⟩) := by
  unfold C.retD
  rw [bnd_of h1]
  dsimp only
  rw [h2]
  dsimp only
  rw [if_pos h3]
theorem cs_retR {n : Nat} (h1 : e z = some (.own n, ⟨s, h⟩)) (h2 : s[n]? = some (.own d)) : C.retR e z = some (.rt (.ref h.length), ⟨s.set n .no, h ++ [d]⟩) := by
  unfold C.retR
  rw [bnd_of h1]
  dsimp only
  rw [h2]
/-- a walk over a list that may change, but does not -/
theorem Dz.loopC {bb : C} {Φ : Fl → Z → Prop} {it : It} {g : G} (I : List D → Z → Prop) (hk : ∀ ds z, I ds z → it.ok z = true) (step : ∀ d ds z, I (d :: ds) z → ∃ z1, g.run d z = some z1 ∧ Dz bb z1 (turn (I ds) Φ)) (fin : ∀ z, I [] z → Φ .nx z) : ∀ (ds : List D) (z : Z), I ds z → Dz (C.loop it g bb ds) z Φ
  | [], z, hh => by
    refine ⟨.nx, z, ?_, fin z hh⟩
    show (if it.ok z = true then some (Fl.nx, z) else none) = _
    rw [if_pos (hk _ _ hh)]
  | d :: ds, z, hh => by
    obtain ⟨z1, e1, f, z2, e2, q⟩ := step d ds z hh
    cases f with
    | nx =>
      obtain ⟨f3, z3, e3, q3⟩ := Dz.loopC I hk step fin ds z2 q
      refine ⟨f3, z3, ?_, q3⟩
      unfold C.loop
      rw [if_pos (hk _ _ hh), e1]
      dsimp only
      rw [e2]
      exact e3
    | ct =>
      obtain ⟨f3, z3, e3, q3⟩ := Dz.loopC I hk step fin ds z2 q
      refine ⟨f3, z3, ?_, q3⟩
      unfold C.loop
      rw [if_pos (hk _ _ hh), e1]
      dsimp only
      rw [e2]
      exact e3
    | bk =>
      refine ⟨_, _, ?_, q⟩
      unfold C.loop
      rw [if_pos (hk _ _ hh), e1]
      dsimp only
      rw [e2]
    | rt d =>
      refine ⟨_, _, ?_, q⟩
      unfold C.loop
      rw [if_pos (hk _ _ hh), e1]
      dsimp only
      rw [e2]
theorem Dz.forC {bb : C} {Φ : Fl → Z → Prop} {mi : M It} {it : It} {g : G} (h1 : mi z = some (it, z1)) (I : List D → Z → Prop) (hk : ∀ ds z, I ds z → it.ok z = true) (h0 : I it.items z1) (step : ∀ d ds z, I (d :: ds) z → ∃ z1, g.run d z = some z1 ∧ Dz bb z1 (turn (I ds) Φ)) (fin : ∀ z, I [] z → Φ .nx z) : Dz (C.for_ mi g bb) z Φ := by
  obtain ⟨f, z2, e, q⟩ := Dz.loopC I hk step fin it.items z1 h0
  refine ⟨f, z2, ?_, q⟩
  unfold C.for_
  rw [bnd_of h1]
  exact e
theorem Dz.fnE {n k : Nat} {ds h : List D} {d : D} {h' : List D} {c : C} (hl : ds.length = k) (hb : Dz c ⟨slots n ds, h⟩ fun f z => match f with | .nx => d = .non ∧ z.h = h' | .rt x => x = d ∧ z.h = h' | _ => False) : Mi.fn n k c ds h = some (d, h') := by
  obtain ⟨x, h2, e, e1, e2⟩ := Dz.fn (n := n) (k := k) (R := fun x h2 => x = d ∧ h2 = h') hl (hb.imp fun f z q => by
    cases f with
    | nx => exact ⟨q.1.symm, q.2⟩
    | rt x => exact q
    | bk => exact q
    | ct => exact q)
  rw [e, e1, e2]
theorem eqP_str2 {x y : Str} {z : Z} : O.eqP (.str x) (.str y) z = some (decide (x = y)) := rfl
/-- equal data are equal -/
theorem eqP_self {x y : D} {p : PyData} (h1 : O.toP (O.snap x z) = some p) (h2 : O.toP (O.snap y z) = some p) (h3 : SeqAt.shaped p = true) : O.eqP x y z = some true := by
  have e : O.eqD x y z = some true := by
    unfold O.eqD
    rw [h1, h2]
    dsimp only
    have h4 : p.canLay0 = true := by
      unfold SeqAt.shaped at h3
      simp only [Bool.and_eq_true] at h3
      exact h3.1
    rw [if_pos ⟨h3, h3⟩, SeqAt.eqv_refl _ h4]
  unfold O.eqP
  split
  · rename_i a b
    have h1 : some (PyData.str a) = some p := h1
    have h2 : some (PyData.str b) = some p := h2
    rw [← h1] at h2
    cases h2
    simp
  · exact e

/-! [[] for _ in xs]: so many new lists of the shared heap -/
theorem loop_shr {it : It} (hk : it.chk = none) (v : Nat) (s : List Sl) (hs : s.set v .no = s) : ∀ (ds acc h : List D), N.loop it (G.nm v) [v] (Mi.ret true) (E.shr (N.disp [])) ds acc ⟨s, h⟩ = some (acc ++ (List.range ds.length).map (fun i => D.ref (h.length + i)), ⟨s, h ++ List.replicate ds.length (.lst [])⟩)
  | [], acc, h => by
    have ok : it.ok ⟨s, h⟩ = true := by unfold It.ok; rw [hk]
    rw [nl_nil ok]
    simp
  | d :: ds, acc, h => by
    have ok : it.ok ⟨s, h⟩ = true := by unfold It.ok; rw [hk]
    have ih := loop_shr hk v s hs ds (acc ++ [.ref h.length]) (h ++ [.lst []])
    have e := nl_t (tt := Mi.ret true) (te := E.shr (N.disp [])) (acc := acc) (ds := ds) (d := d) (g := G.nm v) (vs := [v]) (z1 := ⟨s.set v (.val d), h⟩) (z2 := ⟨s.set v (.val d), h⟩) (z3 := ⟨s.set v (.val d), h ++ [.lst []]⟩) (x := .ref h.length) ok rfl rfl (ev_shr (ev_disp ev_args0)) rfl rfl
    have ew : N.wipe (s.set v (.val d)) [v] = s := by
      show (s.set v (.val d)).set v .no = s
      rw [List.set_set, hs]
    rw [e]
    dsimp only
    rw [ew, ih]
    rw [List.length_cons, List.range_succ_eq_map, List.map_cons, List.map_map, List.append_assoc, List.append_assoc, List.length_append, List.length_singleton, List.replicate_succ]
    congr 3
    · simp only [List.singleton_append, Nat.add_zero]
      congr 1
      refine List.map_congr_left fun i _ => ?_
      show D.ref (h.length + 1 + i) = D.ref (h.length + (i + 1))
      congr 1
      omega
theorem comp_shr {mi : M It} {it : It} {v : Nat} {s : List Sl} {h : List D} {x0 : Sl} (h1 : mi ⟨s, h⟩ = some (it, ⟨s, h⟩)) (hk : it.chk = none) (hl : it.items.length ≤ szl) (hv : s[v]? = some x0) (ho : N.isOwn (some x0) = false) :
    N.comp mi (G.nm v) [v] (Mi.ret true) (E.shr (N.disp [])) ⟨s, h⟩ = some ((List.range it.items.length).map (fun i => D.ref (h.length + i)), ⟨s, h ++ List.replicate it.items.length (.lst [])⟩) := by
  have hvl := (List.getElem?_eq_some_iff.mp hv).1
  have e := ev_comp (g := G.nm v) (vs := [v]) (tt := Mi.ret true) (te := E.shr (N.disp [])) h1 hl (by show (!N.isOwn s[v]? && true) = true; rw [hv, ho]; rfl) (loop_shr hk v (s.set v .no) (by rw [List.set_set]) it.items [] h)
  rw [e]
  have er : N.rest s (s.set v .no) [v] = s := by
    show (match s[v]? with | some x => (s.set v .no).set v x | none => s.set v .no) = s
    rw [hv]
    dsimp only
    rw [List.set_set]
    refine List.ext_getElem? fun j => ?_
    by_cases c : v = j
    · subst c
      rw [List.getElem?_set_self hvl, hv]
    · rw [List.getElem?_set_ne c]
  rw [List.nil_append, er]
/-- a heap's part by a function -/
def tabH (n : Nat) (f : Nat → D) : List D := (List.range n).map f
theorem tabH_get {n i : Nat} {h : List D} {f : Nat → D} (hi : i < n) : (h ++ tabH n f)[h.length + i]? = some (f i) := by
  unfold tabH
  rw [List.getElem?_append_right (Nat.le_add_right _ _), Nat.add_sub_cancel_left, List.getElem?_map, List.getElem?_range hi]
  rfl
theorem tabH_set {n i : Nat} {h : List D} {f : Nat → D} {y : D} : (h ++ tabH n f).set (h.length + i) y = h ++ tabH n fun j => if j = i then y else f j := by
  rw [List.set_append_right _ _ (Nat.le_add_right _ _), Nat.add_sub_cancel_left]
  congr 1
  unfold tabH
  refine List.ext_getElem? fun j => ?_
  rw [List.getElem?_set, List.getElem?_map, List.getElem?_map, List.length_map, List.length_range]
  by_cases hj : j < n
  · rw [List.getElem?_range hj]
    by_cases c : i = j
    · subst c
      simp [hj]
    · rw [if_neg c]
      have : ¬ j = i := fun q => c q.symm
      simp [this]
  · rw [List.getElem?_eq_none (by simpa using hj)]
    by_cases c : i = j
    · subst c
      simp [hj]
    · rw [if_neg c]
      rfl
theorem tabH_congr {n : Nat} {f g : Nat → D} (h : ∀ j, j < n → f j = g j) : tabH n f = tabH n g := by
  unfold tabH
  exact List.map_congr_left fun j hj => h j (List.mem_range.mp hj)
theorem tabH_rep {n : Nat} : List.replicate n (D.lst []) = tabH n fun _ => .lst [] := by
  unfold tabH
  rw [List.map_const', List.length_range]

end
/-! data that can be compared by == -/
def Shd (d : D) (dep : Nat) : Prop := ∃ p, O.toP d = some p ∧ p.canLay0 = true ∧ p.depth ≤ dep
theorem Shd.mono {d : D} {a b : Nat} (h : Shd d a) (hab : a ≤ b) : Shd d b := by
  obtain ⟨p, h1, h2, h3⟩ := h
  exact ⟨p, h1, h2, Nat.le_trans h3 hab⟩
theorem Shd.int {i : Int} {n : Nat} : Shd (.int i) n := ⟨.int i, rfl, by simp [PyData.canLay0], by simp [PyData.depth]⟩
theorem Shd.bl {i : Bool} {n : Nat} : Shd (.bl i) n := ⟨.bool i, rfl, by simp [PyData.canLay0], by simp [PyData.depth]⟩
theorem Shd.non {n : Nat} : Shd .non n := ⟨.none, rfl, by simp [PyData.canLay0], by simp [PyData.depth]⟩
def ShdAll (ds : List D) (dep : Nat) : Prop := ∃ ps, O.toPs ds = some ps ∧ PyData.canLayAll0 ps = true ∧ PyData.depthAll ps ≤ dep
theorem ShdAll.of {dep : Nat} : ∀ {ds : List D}, (∀ d ∈ ds, Shd d dep) → ShdAll ds dep
  | [], _ => ⟨[], rfl, by simp [PyData.canLayAll0], by simp [PyData.depthAll]⟩
  | d :: ds, h => by
    obtain ⟨p, h1, h2, h3⟩ := h d List.mem_cons_self
    obtain ⟨ps, g1, g2, g3⟩ := ShdAll.of (ds := ds) fun x hx => h x (List.mem_cons_of_mem _ hx)
    refine ⟨p :: ps, by rw [O.toPs, h1, g1], by simp [PyData.canLayAll0, h2, g2], ?_⟩
    simp only [PyData.depthAll]
    omega
theorem Shd.lst {ds : List D} {dep : Nat} (h : ∀ d ∈ ds, Shd d dep) : Shd (.lst ds) (dep + 1) := by
  obtain ⟨ps, g1, g2, g3⟩ := ShdAll.of h
  refine ⟨.list ps, by rw [O.toP, g1]; rfl, by simpa [PyData.canLay0] using g2, ?_⟩
  simp only [PyData.depth]
  omega
theorem Shd.tup {ds : List D} {dep : Nat} (h : ∀ d ∈ ds, Shd d dep) : Shd (.tup ds) (dep + 1) := by
  obtain ⟨ps, g1, g2, g3⟩ := ShdAll.of h
  refine ⟨.tuple ps, by rw [O.toP, g1]; rfl, by simpa [PyData.canLay0] using g2, ?_⟩
  simp only [PyData.depth]
  omega
/-- x == x -/
theorem Shd.eqP {x y d : D} {z : Z} (h : Shd d 64) (hx : O.snap x z = d) (hy : O.snap y z = d) : O.eqP x y z = some true := by
  obtain ⟨p, h1, h2, h3⟩ := h
  exact eqP_self (p := p) (by rw [hx, h1]) (by rw [hy, h1]) (by unfold SeqAt.shaped; rw [h2, decide_eq_true h3]; rfl)
/-! sorted lists of ints -/
theorem srtOk_ints (ns : List Int) : srtOk ((ns.map D.int).map pk) = true := by
  have e : ∀ p ∈ (ns.map D.int).map pk, ∃ i, p = PyData.int i := fun p hp => by
    obtain ⟨d, hd, rfl⟩ := List.mem_map.mp hp
    obtain ⟨i, _, rfl⟩ := List.mem_map.mp hd
    exact ⟨i, rfl⟩
  unfold srtOk alikeB sortB
  rw [Bool.and_eq_true, Bool.and_eq_true]
  refine ⟨⟨List.all_eq_true.mpr fun p hp => List.all_eq_true.mpr fun q hq => ?_, ?_⟩, List.all_eq_true.mpr fun p hp => ?_⟩
  · obtain ⟨i, rfl⟩ := e p hp
    obtain ⟨j, rfl⟩ := e q hq
    simp [PySem.W.alike]
  · rw [Bool.or_eq_true]
    refine .inr (List.all_eq_true.mpr fun p hp => ?_)
    obtain ⟨i, rfl⟩ := e p hp
    rfl
  · obtain ⟨i, rfl⟩ := e p hp
    simp [PyData.depth]
theorem srt_mem {k : D → PyData} {ds : List D} {d : D} : d ∈ srt k ds ↔ d ∈ ds := List.mem_mergeSort
theorem srt_len {k : D → PyData} {ds : List D} : (srt k ds).length = ds.length := List.length_mergeSort _
section
end
end Mi

set_option Elab.async false
set_option linter.all false
set_option maxRecDepth 100000
/-! Mi, part N: more rules for walking. -/
namespace Mi
open PySem L2
section
variable {x y d : D} {z z1 z2 z3 : Z} {s s' s2 : List Sl} {h h2 : List D}
/-- a list made of a list, nothing else changed -/
theorem ev_compP {mi : M It} {xs : List D} {g : G} {vs : List Nat} {tt : M Bool} {te : M D} (fl : D → Bool) (fe : D → D) (h1 : mi z = some (⟨xs, none⟩, ⟨s, h⟩)) (hl : xs.length ≤ szl) (ho : (vs.all fun v => !N.isOwn s[v]?) = true) (hw : N.wipe s vs = s')
    (step : ∀ d ∈ xs, ∃ z1 z2 z3, g.run d ⟨s', h⟩ = some z1 ∧ tt z1 = some (fl d, z2) ∧ (fl d = true → te z2 = some (fe d, z3) ∧ isPure (fe d) = true) ∧ (fl d = true → (⟨N.wipe z3.s vs, z3.h⟩ : Z) = ⟨s', h⟩) ∧ (fl d = false → (⟨N.wipe z2.s vs, z2.h⟩ : Z) = ⟨s', h⟩)) (hr : N.rest s s' vs = s2) : N.comp mi g vs tt te z = some ((xs.filter fl).map fe, ⟨s2, h⟩) := by
  have e := comp_loop (it := ⟨xs, none⟩) rfl fl fe ⟨s', h⟩ step xs [] fun d h => h
  rw [List.nil_append] at e
  exact ev_compN h1 hl ho hw e hr
/-- .. where each item is drawn, say: the state goes on -/
theorem ev_compS {mi : M It} {xs : List D} {g : G} {vs : List Nat} {te : M D} (P : List D → List D → Z → Prop) (h1 : mi z = some (⟨xs, none⟩, ⟨s, h⟩)) (hl : xs.length ≤ szl) (ho : (vs.all fun v => !N.isOwn s[v]?) = true) (hw : N.wipe s vs = s') (h0 : P xs [] ⟨s', h⟩)
    (step : ∀ d ds acc z, P (d :: ds) acc z → ∃ z1 x z3, g.run d z = some z1 ∧ te z1 = some (x, z3) ∧ isPure x = true ∧ P ds (acc ++ [x]) ⟨N.wipe z3.s vs, z3.h⟩) : ∃ r z', P [] r z' ∧ N.comp mi g vs (Mi.ret true) te z = some (r, ⟨N.rest s z'.s vs, z'.h⟩) := by
  obtain ⟨r, z', e, p⟩ := comp_inv (it := ⟨xs, none⟩) (g := g) (vs := vs) (tt := Mi.ret true) (te := te) rfl P (fun d ds acc z hp => by
    obtain ⟨z1, x, z3, a, b, c, q⟩ := step d ds acc z hp
    exact ⟨z1, z1, a, .inr ⟨x, z3, rfl, b, c, q⟩⟩) xs [] _ h0
  exact ⟨r, z', p, ev_compN h1 hl ho hw e rfl⟩
section
variable {t u : M Bool} {q : Bool}
theorem tt_orT (h1 : t z = some (true, z1)) : T.or t u z = some (true, z1) := by unfold T.or; rw [bnd_of h1]; rfl
theorem tt_orF (h1 : t z = some (false, z1)) (h2 : u z1 = some (q, z2)) : T.or t u z = some (q, z2) := by unfold T.or; rw [bnd_of h1]; exact h2
theorem tt_andF (h1 : t z = some (false, z1)) : T.and t u z = some (false, z1) := by unfold T.and; rw [bnd_of h1]; rfl
theorem tt_andT (h1 : t z = some (true, z1)) (h2 : u z1 = some (q, z2)) : T.and t u z = some (q, z2) := by unfold T.and; rw [bnd_of h1]; exact h2
end
theorem at_lastN {xs : List D} {x : D} : atI (xs ++ [x]) (-1) = some x := by
  have e : ixN (xs ++ [x]).length (-1) = some xs.length := by
    unfold ixN
    rw [if_neg (by decide), List.length_append, List.length_singleton, if_pos (by omega)]
    congr 1
    omega
  unfold atI
  rw [e]
  show (xs ++ [x])[xs.length]? = _
  rw [List.getElem?_append_right (Nat.le_refl _), Nat.sub_self]
  rfl
theorem at_lastI {xs : List D} {x : D} {i : Int} (hi : i = (xs.length : Int)) : atI (xs ++ [x]) i = some x := by
  subst hi
  refine atI_nat ?_
  rw [List.getElem?_append_right (Nat.le_refl _), Nat.sub_self]
  rfl
theorem Rep.str {s : Str} {n : Nat} (h1 : (s.cps.toList.all fun c => decide (c < 16 ^ 8)) = true) (h2 : s.cps.size ≤ n) : Rep (.str s) 0 n :=
  ⟨.str s, rfl, by simp [PyData.showable], by simp [PyData.hasDict], by simp [PyData.depth], by rw [PyData.leavesShort]; exact h1, by simpa [PyData.weight] using h2⟩
theorem eqP_str {x : Str} {z : Z} : O.eqP (.str x) (.str x) z = some true := by
  show some (decide (x = x)) = some true
  simp
theorem Shd.str {s : Str} {n : Nat} (h : (PyData.str s).canLay0 = true) : Shd (.str s) n := ⟨.str s, rfl, h, by simp [PyData.depth]⟩
theorem Shd.nat {i : Nat} {n : Nat} : Shd (.int i) n := Shd.int
end
/-! ### a, b = x, y -/
def C.par2 (i j : Nat) (a b : M D) : C := bnd (E.args [a, b]) fun ds z => match ds with
  | [x, y] => some (.nx, ⟨(z.s.set i (.val x)).set j (.val y), z.h⟩)
  | _ => none
def C.par3 (i j l : Nat) (a b c : M D) : C := bnd (E.args [a, b, c]) fun ds z => match ds with
  | [x, y, w] => some (.nx, ⟨((z.s.set i (.val x)).set j (.val y)).set l (.val w), z.h⟩)
  | _ => none
section
variable {X : Cx} {Tb : Tbs}
theorem ms_par2 {i j : Nat} {x y : Str} {a b : Expr} {ma mb : M D} {px py pt pos : Pos} {kt k2 pt2} (hc : X.calm = true) (hN : X.N.Nodup) (ha : PA X [a, b] (Ta (kx X Tb) (E.args [ma, mb])))
    (hw : swappedStores [.Tuple [.Name x px, .Name y py] kt pt] (.Tuple [a, b] k2 pt2) X.env = pure (some [x, y])) (hi : X.N[i]? = some x := by rfl) (hj : X.N[j]? = some y := by rfl) (hij : i ≠ j := by decide)
    (hx : X.env.scope.names.lookup x = some .local := by rfl) (hy : X.env.scope.names.lookup y = some .local := by rfl)
    (hs : swapsWithSole [.Tuple [.Name x px, .Name y py] kt pt] (.Tuple [a, b] k2 pt2) pos.line X.env = pure false := by rfl) :
    PS X (.Assign [.Tuple [.Name x px, .Name y py] kt pt] (.Tuple [a, b] k2 pt2) pos) (Ts (kx X Tb) (C.par2 i j ma mb)) := by
  refine ps_imp (ps_par hc hN hi hj hij hx hy ha hw hs) fun D σ H ⟨B, F, rho, om, z, R, f, z', e, k⟩ => ?_
  obtain ⟨ds, z1, e1, e2⟩ := bnd_some e
  refine ⟨B, F, rho, om, z, R, ds, z1, e1, fun F1 rho1 H1 vs s p R1 r1 => ?_⟩
  split at e2
  · cases e2
    cases r1 with
    | cons p1 q1 => cases q1 with
      | cons p2 q2 =>
        cases q2
        exact ⟨_, _, rfl, k F1 rho1 _ _ H1 s p ((R1.setVal i p1).setVal j p2)⟩
  · cases e2
theorem ms_par3 {i j l : Nat} {x y w : Str} {a b c : Expr} {ma mb mc : M D} {px py pw pt pos : Pos} {kt k2 pt2} (hc : X.calm = true) (hN : X.N.Nodup) (ha : PA X [a, b, c] (Ta (kx X Tb) (E.args [ma, mb, mc])))
    (hw : swappedStores [.Tuple [.Name x px, .Name y py, .Name w pw] kt pt] (.Tuple [a, b, c] k2 pt2) X.env = pure (some [x, y, w])) (hi : X.N[i]? = some x := by rfl) (hj : X.N[j]? = some y := by rfl) (hl : X.N[l]? = some w := by rfl) (hij : i ≠ j := by decide) (hil : i ≠ l := by decide) (hjl : j ≠ l := by decide)
    (hx : X.env.scope.names.lookup x = some .local := by rfl) (hy : X.env.scope.names.lookup y = some .local := by rfl) (hz : X.env.scope.names.lookup w = some .local := by rfl)
    (hs : swapsWithSole [.Tuple [.Name x px, .Name y py, .Name w pw] kt pt] (.Tuple [a, b, c] k2 pt2) pos.line X.env = pure false := by rfl) :
    PS X (.Assign [.Tuple [.Name x px, .Name y py, .Name w pw] kt pt] (.Tuple [a, b, c] k2 pt2) pos) (Ts (kx X Tb) (C.par3 i j l ma mb mc)) := by
  refine ps_imp (ps_par3 hc hN hi hj hl hij hil hjl hx hy hz ha hw hs) fun D σ H ⟨B, F, rho, om, z, R, f, z', e, k⟩ => ?_
  obtain ⟨ds, z1, e1, e2⟩ := bnd_some e
  refine ⟨B, F, rho, om, z, R, ds, z1, e1, fun F1 rho1 H1 vs s p R1 r1 => ?_⟩
  split at e2
  · cases e2
    cases r1 with
    | cons p1 q1 => cases q1 with
      | cons p2 q2 => cases q2 with
        | cons p3 q3 =>
          cases q3
          exact ⟨_, _, _, rfl, k F1 rho1 _ _ H1 s p (((R1.setVal i p1).setVal j p2).setVal l p3)⟩
  · cases e2
end
theorem cs_par2 {i j : Nat} {a b : M D} {x y : D} {z : Z} {s s' : List Sl} {h : List D} (h1 : E.args [a, b] z = some ([x, y], ⟨s, h⟩)) (hs : (s.set i (.val x)).set j (.val y) = s') : C.par2 i j a b z = some (.nx, ⟨s', h⟩) := by
  subst hs
  unfold C.par2
  rw [bnd_of h1]
theorem cs_par3 {i j l : Nat} {a b c : M D} {x y w : D} {z : Z} {s s' : List Sl} {h : List D} (h1 : E.args [a, b, c] z = some ([x, y, w], ⟨s, h⟩)) (hs : ((s.set i (.val x)).set j (.val y)).set l (.val w) = s') : C.par3 i j l a b c z = some (.nx, ⟨s', h⟩) := by
  subst hs
  unfold C.par3
  rw [bnd_of h1]
namespace Dr
/-- a draw: some number below -/
theorem drawX (s : DS) (tl : List D) {many : Nat} (h : 0 < many) (hb : many ≤ 1000000000) : ∃ (v : Nat) (s' : DS), v < many ∧ m_law_draw [.ref 1, .int many] (stT s tl) = some (.int v, stT s' tl) := by
  have a := drawV_nn s (many := (many : Int)) (by omega)
  have b := drawV_lt s (many := (many : Int)) (by omega)
  refine ⟨(drawV s many).toNat, drawS s many, by omega, ?_⟩
  rw [draw_evT tl s (many := (many : Int)) (m := 64) (by omega) (Smn.of (by omega)) (by decide)]
  have e : ((drawV s many).toNat : Int) = drawV s many := Int.toNat_of_nonneg a
  rw [e]
noncomputable section
@[reducible] def st_law_pick_1 : C := (C.ret (E.op O.ix (E.var 1) (E.call m_law_draw [(E.var 0), (E.blt F.len [(E.var 1)])])))
def b_law_pick : C := st_law_pick_1
def m_law_pick : Fn := fn 2 2 b_law_pick
end
theorem pickX (s : DS) (tl : List D) {xs : List D} (h : 0 < xs.length) (hb : xs.length ≤ 1000000000) (hp : ∀ x ∈ xs, isPure x = true) : ∃ (x : D) (s' : DS), x ∈ xs ∧ m_law_pick [.ref 1, .lst xs] (stT s tl) = some (x, stT s' tl) := by
  obtain ⟨v, s', hv, e⟩ := drawX s tl h hb
  obtain ⟨x, hx⟩ : ∃ x, xs[v]? = some x := ⟨_, List.getElem?_eq_getElem hv⟩
  have hm := List.mem_of_getElem? hx
  refine ⟨x, s', hm, ?_⟩
  unfold m_law_pick
  apply fn_rtH rfl
  unfold b_law_pick
  exact cs_ret (ev_ix (ev_var (n := 1) (d := .lst xs) rfl) (ev_call (ev_args (ev_var rfl) (ev_args (ev_blt1 (ev_var rfl) (lf_len rfl)) ev_args0 rfl) rfl) e) rfl (atI_nat hx)) (hp x hm)
noncomputable section
/-- .. the text that answers 0 where there is nothing to draw from -/
@[reducible] def st_law_draw_0 : C := (C.ite (T.val (E.op O.lt (E.var 1) (E.c (.int 1)))) (C.ret (E.c (.int 0))) C.skip)
def m_law_draw2 : Fn := fn 5 2 (C.seq st_law_draw_0 b_law_draw)
end
theorem drawX2 (s : DS) (tl : List D) {many : Nat} (h : 0 < many) (hb : many ≤ 1000000000) : ∃ (v : Nat) (s' : DS), v < many ∧ m_law_draw2 [.ref 1, .int many] (stT s tl) = some (.int v, stT s' tl) := by
  obtain ⟨v, s', hv, e⟩ := drawX s tl h hb
  refine ⟨v, s', hv, ?_⟩
  rw [← e]
  unfold m_law_draw2 m_law_draw fn
  have t : st_law_draw_0 ⟨slots 5 [.ref 1, .int many], stT s tl⟩ = some (.nx, ⟨slots 5 [.ref 1, .int many], stT s tl⟩) := by
    have e := tv (ev_lt (z := ⟨slots 5 [.ref 1, .int many], stT s tl⟩) (ev_var (n := 1) (d := .int many) rfl) (ev_c (d := .int 1)))
    rw [decide_eq_false (by omega)] at e
    exact cs_iteF e cs_skip
  have t2 : (C.seq st_law_draw_0 b_law_draw) ⟨slots 5 [.ref 1, .int many], stT s tl⟩ = b_law_draw ⟨slots 5 [.ref 1, .int many], stT s tl⟩ := cs_nx t rfl
  rw [t2]
end Dr
end Mi

set_option Elab.async false
set_option linter.all false
set_option maxRecDepth 100000
/-! Mi, part P: the least and the greatest of a row of numbers, list or tuple; comprehensions over three. -/
namespace Mi
open PySem PySem.W PySem.Spec PyProof.Rows L2
def F.rowI (x : D) (z : Z) : Option (List Int) := match cont x z with
  | some (_, ds) => F.ofInts ds
  | none => none
def F.minR : List D → Z → Option D
  | [x], z => match F.rowI x z with
    | some ns => (F.minL ns).map .int
    | none => none
  | _, _ => none
def F.maxR : List D → Z → Option D
  | [x], z => match F.rowI x z with
    | some ns => (F.maxL ns).map .int
    | none => none
  | _, _ => none
section
variable {X : Cx}
def RowI (K : PySem.W.Frag) (H : Hp) (a : Addr) (ns : List Int) : Prop := SqL K H a (ns.map V.int) ∨ SqT K H a (ns.map V.int)
theorem rowI_ok {K : Kx} {B : Bs} {F : Hp} {rho : List Addr} {om : Nat → Option Addr} {z : Z} {σ : L2.St} {H : Hp} {d : D} {v : V} {ns : List Int} (R : Rl K B F rho om z σ H) (r : Rv K F rho om d v) (h : Mi.F.rowI d z = some ns) : ∃ a, v = .ref a ∧ RowI K H a ns := by
  unfold Mi.F.rowI at h
  split at h
  · rename_i ds hc
    obtain ⟨a, xs, rfl, q, h9⟩ := cont_ok R r hc
    obtain rfl := ofInts_ok h q
    rcases h9 with ⟨_, h9⟩ | ⟨_, h9⟩
    · exact ⟨a, rfl, .inl h9⟩
    · exact ⟨a, rfl, .inr h9⟩
  · cases h
theorem reads_ints {h : Heap} : ∀ {ns : List Int} {us : List Value}, Vals (ns.map V.int) us → ReadsAll h us (ns.map PyData.int) []
  | [], us, r => by cases r; exact .nil
  | n :: ns, us, r => by
    cases r with
    | cons r1 r2 =>
      obtain ⟨t, rfl⟩ := r1
      exact .cons (as := []) (bs := []) (.int n t) (reads_ints r2)
theorem alike_row (ns : List Int) : AlikeAll (ns.map PyData.int) := by
  constructor
  · intro x hx y hy
    obtain ⟨i, _, rfl⟩ := List.mem_map.mp hx
    obtain ⟨j, _, rfl⟩ := List.mem_map.mp hy
    show PySem.W.alike (.int i) (.int j) = true
    simp only [PySem.W.alike]
  · intro x hx
    obtain ⟨i, _, rfl⟩ := List.mem_map.mp hx
    exact fun c => nomatch c
theorem depth_row : ∀ ns : List Int, PyData.depthAll (ns.map PyData.int) = 0
  | [] => by simp [PyData.depthAll]
  | n :: ns => by simp [PyData.depthAll, PyData.depth, depth_row ns]
theorem fold_min (n : Int) (ns : List Int) : ns.foldl min n = ns.foldl (fun a b => if b < a then b else a) n := by
  congr 1
  funext a b
  split <;> omega
theorem fold_max (n : Int) (ns : List Int) : ns.foldl max n = ns.foldl (fun a b => if a < b then b else a) n := by
  congr 1
  funext a b
  split <;> omega
def rMinR (K : PySem.W.Frag) : List V → Hp → VK → Prop := fun vs H Q => ∃ (a : Addr) (n : Int) (ns : List Int), vs = [V.ref a] ∧ RowI K H a (n :: ns) ∧ Q (.int (ns.foldl (fun a b => if b < a then b else a) n)) H
def rMaxR (K : PySem.W.Frag) : List V → Hp → VK → Prop := fun vs H Q => ∃ (a : Addr) (n : Int) (ns : List Int), vs = [V.ref a] ∧ RowI K H a (n :: ns) ∧ Q (.int (ns.foldl (fun a b => if a < b then b else a) n)) H
theorem call_minR (hc : X.calm = true) (hu : X.A.units + 64 < cLine) : CallR X (.builtin "min") (rMinR X.K) := by
  intro pins s σ H vs us Q I r h
  obtain ⟨a, n, ns, rfl, hs, q⟩ := h
  rw [Vals.ref1 r]
  have hd : X.A.units + 1 + PyData.depthAll (PyData.int n :: ns.map PyData.int) < cLine := by
    have := depth_row (n :: ns)
    rw [List.map_cons] at this
    omega
  rcases hs with hs | hs
  · obtain ⟨its, rv, hl, _⟩ := I.list hs
    refine min_list_data (I.ok.hd hc) hl.isList (reads_ints (ns := n :: ns) rv) (alike_row (n :: ns)) hd fun i v h' tk bs _ rd hk => ?_
    rw [minD_ints, fold_min] at rd
    cases rd with
    | int i t => exact ⟨.int _, H, I.kept hk, ⟨_, rfl⟩, q⟩
  · obtain ⟨its, rv, hl, _⟩ := I.tuple hs
    refine min_tuple_data (I.ok.hd hc) hl (reads_ints (ns := n :: ns) rv) (alike_row (n :: ns)) hd fun i v h' tk bs _ rd hk => ?_
    rw [minD_ints, fold_min] at rd
    cases rd with
    | int i t => exact ⟨.int _, H, I.kept hk, ⟨_, rfl⟩, q⟩
theorem call_maxR (hc : X.calm = true) (hu : X.A.units + 64 < cLine) : CallR X (.builtin "max") (rMaxR X.K) := by
  intro pins s σ H vs us Q I r h
  obtain ⟨a, n, ns, rfl, hs, q⟩ := h
  rw [Vals.ref1 r]
  have hd : X.A.units + 1 + PyData.depthAll (PyData.int n :: ns.map PyData.int) < cLine := by
    have := depth_row (n :: ns)
    rw [List.map_cons] at this
    omega
  rcases hs with hs | hs
  · obtain ⟨its, rv, hl, _⟩ := I.list hs
    refine max_list_data (I.ok.hd hc) hl.isList (reads_ints (ns := n :: ns) rv) (alike_row (n :: ns)) hd fun i v h' tk bs _ rd hk => ?_
    rw [maxD_ints, fold_max] at rd
    cases rd with
    | int i t => exact ⟨.int _, H, I.kept hk, ⟨_, rfl⟩, q⟩
  · obtain ⟨its, rv, hl, _⟩ := I.tuple hs
    refine max_tuple_data (I.ok.hd hc) hl (reads_ints (ns := n :: ns) rv) (alike_row (n :: ns)) hd fun i v h' tk bs _ rd hk => ?_
    rw [maxD_ints, fold_max] at rd
    cases rd with
    | int i t => exact ⟨.int _, H, I.kept hk, ⟨_, rfl⟩, q⟩
theorem f_minR (hc : X.calm = true) (hu : X.A.units + 64 < cLine) : CallM X (.builtin "min") F.minR := by
  refine ⟨_, call_minR hc hu, ?_⟩
  intro Tb B F rho om z σ H xs vs d R r e Q k
  unfold Mi.F.minR at e
  split at e
  · obtain ⟨v, rfl, rv⟩ := rvs1 r
    rename_i x
    split at e
    · rename_i ns hl
      obtain ⟨a, rfl, h⟩ := rowI_ok R rv hl
      cases ns with
      | nil => cases e
      | cons n ns =>
        cases e
        exact ⟨a, n, ns, rfl, h, k F H _ (Same.refl F) R (.pure (.int _))⟩
    · cases e
  · cases e
theorem f_maxR (hc : X.calm = true) (hu : X.A.units + 64 < cLine) : CallM X (.builtin "max") F.maxR := by
  refine ⟨_, call_maxR hc hu, ?_⟩
  intro Tb B F rho om z σ H xs vs d R r e Q k
  unfold Mi.F.maxR at e
  split at e
  · obtain ⟨v, rfl, rv⟩ := rvs1 r
    rename_i x
    split at e
    · rename_i ns hl
      obtain ⟨a, rfl, h⟩ := rowI_ok R rv hl
      cases ns with
      | nil => cases e
      | cons n ns =>
        cases e
        exact ⟨a, n, ns, rfl, h, k F H _ (Same.refl F) R (.pure (.int _))⟩
    · cases e
  · cases e
end
/-! walking -/
section
variable {x y d : D} {z z1 z2 z3 : Z} {s s' s2 : List Sl} {h h0 h1 h2 : List D}
theorem lf_minR {t : Bool} {ds : List D} {n : Int} {ns : List Int} (hc : cont x z = some (t, ds)) (hn : F.ofInts ds = some (n :: ns)) : F.minR [x] z = some (.int (ns.foldl (fun a b => if b < a then b else a) n)) := by
  show (match F.rowI x z with | some ns => (F.minL ns).map D.int | none => none) = _
  unfold F.rowI
  rw [hc]
  dsimp only
  rw [hn]
  rfl
theorem lf_maxR {t : Bool} {ds : List D} {n : Int} {ns : List Int} (hc : cont x z = some (t, ds)) (hn : F.ofInts ds = some (n :: ns)) : F.maxR [x] z = some (.int (ns.foldl (fun a b => if a < b then b else a) n)) := by
  show (match F.rowI x z with | some ns => (F.maxL ns).map D.int | none => none) = _
  unfold F.rowI
  rw [hc]
  dsimp only
  rw [hn]
  rfl
/-- a list made of a list that is watched -/
theorem comp_loopK {it : It} {g : G} {vs : List Nat} {tt : M Bool} {te : M D} (fl : D → Bool) (fe : D → D) (w : Z) (ok : it.ok w = true) (step : ∀ d, d ∈ it.items → ∃ z1 z2 z3, g.run d w = some z1 ∧ tt z1 = some (fl d, z2) ∧ (fl d = true → te z2 = some (fe d, z3) ∧ isPure (fe d) = true) ∧ (fl d = true → (⟨N.wipe z3.s vs, z3.h⟩ : Z) = w) ∧ (fl d = false → (⟨N.wipe z2.s vs, z2.h⟩ : Z) = w)) :
    ∀ (ds : List D) (acc : List D), (∀ d ∈ ds, d ∈ it.items) → N.loop it g vs tt te ds acc w = some (acc ++ (ds.filter fl).map fe, w)
  | [], acc, _ => by
    unfold N.loop
    rw [if_pos ok]
    simp
  | d :: ds, acc, hm => by
    obtain ⟨z1, z2, z3, h1, h2, h3, h4, h5⟩ := step d (hm d List.mem_cons_self)
    have ih := fun acc => comp_loopK fl fe w ok step ds acc fun x hx => hm x (List.mem_cons_of_mem _ hx)
    unfold N.loop
    rw [if_pos ok, h1]
    dsimp only
    rw [h2]
    cases hf : fl d with
    | true =>
      obtain ⟨h6, h7⟩ := h3 hf
      dsimp only
      rw [h6]
      dsimp only
      rw [if_pos h7, h4 hf, ih]
      simp [List.filter_cons, hf]
    | false =>
      dsimp only
      rw [h5 hf, ih]
      simp [List.filter_cons, hf]
theorem ev_compO {mi : M It} {xs : List D} {o : D} {g : G} {vs : List Nat} {tt : M Bool} {te : M D} (fl : D → Bool) (fe : D → D) (e : mi z = some (⟨xs, some o⟩, ⟨s, h⟩)) (hl : xs.length ≤ szl) (ho : (vs.all fun v => !N.isOwn s[v]?) = true) (hw : N.wipe s vs = s') (ok : (⟨xs, some o⟩ : It).ok ⟨s', h⟩ = true)
    (step : ∀ d ∈ xs, ∃ z1 z2 z3, g.run d ⟨s', h⟩ = some z1 ∧ tt z1 = some (fl d, z2) ∧ (fl d = true → te z2 = some (fe d, z3) ∧ isPure (fe d) = true) ∧ (fl d = true → (⟨N.wipe z3.s vs, z3.h⟩ : Z) = ⟨s', h⟩) ∧ (fl d = false → (⟨N.wipe z2.s vs, z2.h⟩ : Z) = ⟨s', h⟩)) (hr : N.rest s s' vs = s2) : N.comp mi g vs tt te z = some ((xs.filter fl).map fe, ⟨s2, h⟩) := by
  have e2 := comp_loopK (it := ⟨xs, some o⟩) fl fe ⟨s', h⟩ ok step xs [] fun d h => h
  rw [List.nil_append] at e2
  exact ev_compN e hl ho hw e2 hr
/-- a list made of three items; the heap may go on -/
theorem ev_comp3 {mi : M It} {a0 a1 a2 y0 y1 y2 : D} {g : G} {vs : List Nat} {te : M D} {za zb zc : Z} {sa sb sc : List Sl} (e : mi z = some (⟨[a0, a1, a2], none⟩, ⟨s, h⟩)) (ho : (vs.all fun v => !N.isOwn s[v]?) = true) (hw : N.wipe s vs = s')
    (g0 : g.run a0 ⟨s', h⟩ = some za) (t0 : te za = some (y0, ⟨sa, h0⟩)) (w0 : N.wipe sa vs = s') (p0 : isPure y0 = true)
    (g1 : g.run a1 ⟨s', h0⟩ = some zb) (t1 : te zb = some (y1, ⟨sb, h1⟩)) (w1 : N.wipe sb vs = s') (p1 : isPure y1 = true)
    (g2 : g.run a2 ⟨s', h1⟩ = some zc) (t2 : te zc = some (y2, ⟨sc, h2⟩)) (w2 : N.wipe sc vs = s') (p2 : isPure y2 = true) (hr : N.rest s s' vs = s2) : N.comp mi g vs (Mi.ret true) te z = some ([y0, y1, y2], ⟨s2, h2⟩) := by
  have ok : ∀ {xs : List D} {z : Z}, (⟨xs, none⟩ : It).ok z = true := fun {xs z} => rfl
  refine ev_compN e (show 3 ≤ szl by unfold szl; omega) ho hw ?_ hr
  refine nl_t ok g0 rfl t0 p0 ?_
  dsimp only
  rw [w0]
  refine nl_t ok g1 rfl t1 p1 ?_
  dsimp only
  rw [w1]
  refine nl_t ok g2 rfl t2 p2 ?_
  dsimp only
  rw [w2]
  exact nl_nil ok
theorem rng3 : I.rng1 (E.c (.int 3)) z = some (⟨[.int 0, .int 1, .int 2], none⟩, z) := ev_rng1 (n := 3) ev_c ⟨by decide, by decide⟩
end
namespace St
theorem takeX (t : TS) (tl : List D) {many : Nat} (h : 0 < many) : ∃ (v : Nat) (t' : TS), v < many ∧ m_law_take [.ref 0, .int many] (tkT t tl) = some (.int v, tkT t' tl) := by
  have a := takeV_nn t (many := (many : Int)) (by omega)
  have b := takeV_lt t (many := (many : Int)) (by omega)
  refine ⟨(takeV t many).toNat, takeS t, by omega, ?_⟩
  rw [take_evT tl t (many := (many : Int)) (by omega)]
  have e : ((takeV t many).toNat : Int) = takeV t many := Int.toNat_of_nonneg a
  rw [e]
end St
end Mi

set_option Elab.async false
set_option linter.all false
set_option maxRecDepth 100000
/-! Mi, part Q: instances. -/
namespace Mi
open PySem PySem.W PySem.Spec PyProof.Rows L2
/-- a field stored: in its place, or behind -/
def putFD (f : Str) (d : D) : List (Str × D) → List (Str × D)
  | [] => [(f, d)]
  | (k, x) :: r => if k = f then (k, d) :: r else (k, x) :: putFD f d r
/-- .. read -/
def O.fld (f : Str) (x : D) (z : Z) : Option D := match x with
  | .ref n => match z.h[n]? with
    | some (.ins _ fs) => fs.lookup f
    | _ => none
  | .ins _ fs => fs.lookup f
  | _ => none
@[reducible] def E.fld (f : Str) (m : M D) : M D := E.un (O.fld f) m
def C.fset (f : Str) (o v : M D) : C := bnd v fun d => bnd o fun x z => if isPure d = true then match x with
    | .ref n => match z.h[n]? with
      | some (.ins nm fs) => if fs.length < 1000 then some (.nx, ⟨z.s, z.h.set n (.ins nm (putFD f d fs))⟩) else none
      | _ => none
    | _ => none
  else none
/-- what is never come to -/
def C.never : C := fun _ => none
section
variable {X : Cx} {Tb : Tbs}
theorem ms_never {s : Stmt} (h : ∃ t, PS X s t) : PS X s (Ts (kx X Tb) C.never) := by
  obtain ⟨t, h⟩ := h
  exact ps_imp h fun D σ H ⟨B, F, rho, om, z, R, f, z', e, k⟩ => by cases e
theorem ms_never0 {s : Stmt} : PS X s (Ts (kx X Tb) C.never) := ⟨fun pins s σ H D I ⟨B, F, rho, om, z, R, f, z', e, k⟩ => by cases e⟩
variable {K : Kx} {F : Hp} {rho : List Addr}
theorem rps_lookup {f : Str} : ∀ {fs : List (Str × D)} {es : List (Str × V)} {d : D}, es.map Prod.fst = fs.map Prod.fst → Rps K F rho (fs.map Prod.snd) (es.map Prod.snd) → fs.lookup f = some d → ∃ v, es.lookup f = some v ∧ Rp K F rho d v
  | [], es, d, _, _, h => by cases h
  | (k, x) :: fs, es, d, hk, r, h => by
    cases es with
    | nil => cases hk
    | cons e es =>
      obtain ⟨k2, v⟩ := e
      rw [List.map_cons, List.map_cons, List.cons.injEq] at hk
      obtain ⟨hk1, hk2⟩ := hk
      have hk1 : k2 = k := hk1
      subst hk1
      rw [List.map_cons, List.map_cons] at r
      cases r with
      | cons r1 r2 =>
        rw [List.lookup_cons] at h ⊢
        cases c : (f == k2) with
        | true =>
          rw [c] at h
          cases h
          exact ⟨v, rfl, r1⟩
        | false =>
          rw [c] at h
          exact rps_lookup hk2 r2 h
theorem rps_putF {f : Str} {d : D} {v : V} (rv : Rp K F rho d v) : ∀ {fs : List (Str × D)} {es : List (Str × V)}, es.map Prod.fst = fs.map Prod.fst → Rps K F rho (fs.map Prod.snd) (es.map Prod.snd) → (putF f v es).map Prod.fst = (putFD f d fs).map Prod.fst ∧ Rps K F rho ((putFD f d fs).map Prod.snd) ((putF f v es).map Prod.snd)
  | [], es, hk, r => by
    cases es with
    | nil => exact ⟨rfl, .cons rv .nil⟩
    | cons e es => cases hk
  | (k, x) :: fs, es, hk, r => by
    cases es with
    | nil => cases hk
    | cons e es =>
      obtain ⟨k2, w⟩ := e
      rw [List.map_cons, List.map_cons, List.cons.injEq] at hk
      obtain ⟨hk1, hk2⟩ := hk
      have hk1 : k2 = k := hk1
      subst hk1
      rw [List.map_cons, List.map_cons] at r
      cases r with
      | cons r1 r2 =>
        unfold putF putFD
        by_cases c : k2 = f
        · rw [if_pos c, if_pos c]
          rw [List.map_cons, List.map_cons, List.map_cons, List.map_cons]
          exact ⟨by rw [hk2], .cons rv r2⟩
        · rw [if_neg c, if_neg c]
          obtain ⟨h1, h2⟩ := rps_putF rv hk2 r2
          rw [List.map_cons, List.map_cons, List.map_cons, List.map_cons]
          exact ⟨by rw [h1], .cons r1 h2⟩
theorem me_fld {f : Str} {e : Expr} {m : M D} {pos : Pos} (hc : ∀ p ∈ (kx X Tb).tb.c, Cls X.K p.2) (hn : ∀ p ∈ (kx X Tb).tb.c, NoAttr X.K p.2 f) (he : PE X e (Te (kx X Tb) m)) (hb : attributeBase e f X.env (eval e X.env) = eval e X.env := by rfl) : PE X (.Attribute e f pos) (Te (kx X Tb) (E.fld f m)) := by
  refine pe_imp (pe_fld he hb) (un_go (r := fun x H Q => ∃ a C dx fs v, x = V.ref a ∧ H a = some (.ins C dx fs) ∧ Cls X.K C ∧ NoAttr X.K C f ∧ fs.lookup f = some v ∧ Q v H) ?_)
  intro B F rho om z σ H x xv d R rx e Q k
  unfold O.fld at e
  split at e
  · rename_i n
    split at e
    · rename_i nm fs hz
      cases rx with
      | pure rx =>
        cases rx with
        | ref hr =>
          obtain ⟨C, dx, es, hm, hH, hk, hv⟩ := R.rh.obs _ _ _ hz hr
          obtain ⟨v, h1, h2⟩ := rps_lookup hk hv e
          exact ⟨_, C, dx, es, v, rfl, hH, hc _ hm, hn _ hm, h1, k F H v (Same.refl F) R (.pure h2)⟩
    · cases e
  · rename_i nm fs
    cases rx with
    | pure rx =>
      cases rx with
      | ins hm hF hk hv =>
        obtain ⟨v, h1, h2⟩ := rps_lookup hk hv e
        exact ⟨_, _, _, _, v, rfl, R.rh.fro _ _ hF, hc _ hm, hn _ hm, h1, k F H v (Same.refl F) R (.pure h2)⟩
  · cases e
theorem ms_fset {f : Str} {o e : Expr} {mo mv : M D} {pos pos' : Pos} (hc : ∀ p ∈ (kx X Tb).tb.c, Cls X.K p.2) (hn : ∀ p ∈ (kx X Tb).tb.c, NoAttr X.K p.2 f) (ho : PE X o (Te (kx X Tb) mo)) (hv : PE X e (Te (kx X Tb) mv)) (hs : swapsWith e (some (.Attribute o f pos')) pos.line X.env = pure false := by rfl) : PS X (.Assign [.Attribute o f pos'] e pos) (Ts (kx X Tb) (C.fset f mo mv)) := by
  refine ps_imp (ps_fld ho hv hs) fun D σ H ⟨B, F, rho, om, z, R, fl, z', e, k⟩ => ?_
  obtain ⟨d, z1, e1, e2⟩ := bnd_some e
  refine ⟨B, F, rho, om, z, R, d, z1, e1, fun F1 rho1 H1 v s1 p1 R1 r1 => ?_⟩
  obtain ⟨x, z2, e3, e4⟩ := bnd_some e2
  refine ⟨B, F1, rho1, om, z1, R1, x, z2, e3, fun F2 rho2 H2 w s2 p2 R2 r2 => ?_⟩
  split at e4
  · rename_i hp
    split at e4
    · rename_i n
      split at e4
      · rename_i nm fs hz
        split at e4
        · rename_i hl
          cases e4
          cases r2 with
          | pure r2 =>
            cases r2 with
            | ref hr =>
              obtain ⟨C, dx, es, hm, hH, hk, hvs⟩ := R2.rh.obs _ _ _ hz hr
              have rp := (r1.of_pure hp).mono s2 p2
              have q := rps_putF (f := f) rp hk hvs
              have hle : es.length < 1000 := by
                have := congrArg List.length hk
                rw [List.length_map, List.length_map] at this
                omega
              have R3 := R2.mutRef hr (o := .ins C dx (putF f v es)) (d := .ins nm (putFD f d fs)) ⟨C, dx, _, hm, upd_same, q.1, q.2⟩
              exact ⟨_, C, dx, es, rfl, hH, hc _ hm, hn _ hm, hle, k F2 rho2 _ _ _ (s1.trans s2) (p1.trans p2) R3⟩
        · cases e4
      · cases e4
    · cases e4
  · cases e4
/-! ### an instance made -/
def E.make (nm : Str) (mf : Fn) (g : List D → List D) (ms : List (M D)) : M D := bnd (E.args ms) fun xs z => match mf (.ref z.h.length :: g xs) (z.h ++ [.ins nm []]) with
  | some (.non, h') => some (.ref z.h.length, ⟨z.s, h'⟩)
  | _ => none
theorem pk_imp {kws : List Keyword} {t t' : TA} (h : PK X kws t) (i : ∀ σ H Q, t' σ H Q → t σ H Q) : PK X kws t' := ⟨fun pos pins s σ H Q I hw => h.run pos pins s σ H Q I (i σ H Q hw)⟩
theorem mk_nil : PK X [] (Ta (kx X Tb) (E.args [])) := pk_imp pk_nil fun σ H Q ⟨B, F, rho, om, z, g⟩ => g.ret [] .nil
theorem mk_cons {nm : Option Str} {kpos : Pos} {e : Expr} {kws : List Keyword} {m : M D} {ms : List (M D)} (ha : PE X e (Te (kx X Tb) m)) (hr : PK X kws (Ta (kx X Tb) (E.args ms))) : PK X (⟨nm, e, kpos⟩ :: kws) (Ta (kx X Tb) (E.args (m :: ms))) := by
  refine pk_imp (pk_cons ha hr) fun σ H Q ⟨B, F, rho, om, z, g⟩ => ?_
  refine (g.bnd.imp fun F1 rho1 H1 x z1 y _ _ _ _ _ ⟨F2, rho2, z2, x2, eg1, s1, p1, r1, g1⟩ => ?_).tx (R := rV (kx X Tb))
  refine (g1.bnd.imp fun F3 rho3 H3 xs z3 ys _ _ _ _ _ ⟨F4, rho4, z4, xs4, eg2, s2, p2, r2, g2⟩ => ?_).tx (R := rA (kx X Tb))
  by_cases hp : isPure x2 = true
  · rw [if_pos hp] at g2
    exact g2.ret _ (.cons ((r1.mono s2 p2).of_pure hp) r2)
  · rw [if_neg hp] at g2
    obtain ⟨_, _, _, e, _⟩ := g2
    cases e
/-- values put in the parameters' order, alike in data and values -/
def Alike (K : Kx) (m n : Nat) (g : List D → List D) (gV : List V → List V) : Prop := ∀ {F : Hp} {rho : List Addr} {ds : List D} {vs : List V}, ds.length = m → Rps K F rho ds vs → Rps K F rho (g ds) (gV vs) ∧ (gV vs).length = n
theorem make_go {nm : Str} {C : Addr} {n m : Nat} {mf : Fn} {g : List D → List D} {gV : List V → List V} {ms : List (M D)} {Ee : XK} (hC : (nm, C) ∈ K.tb.c) (hm : ms.length = m) (al : Alike K m n g gV) : ∀ σ H Q, Te K (E.make nm mf g ms) σ H Q →
    (Ta K (E.args ms)) σ H fun zs H2 => zs.length = m ∧ ∀ x dx, H2 x = none → H2 dx = none → dx ≠ x → spM (n + 1) K mf (.ref x :: gV zs) (upd (upd H2 dx (.own x)) x (.ins C dx [])) (fun v H3 => v = .non ∧ Q (.ref x) H3) Ee := by
  rintro σ H Q ⟨B, F, rho, om, z, gg⟩
  refine (gg.bnd.imp fun _ _ H1 _ _ zs _ _ _ _ _ ⟨F2, rho2, z2, xs, eg1, s1, p1, r1, g1⟩ => ?_).tx (R := rA K)
  obtain ⟨R, d, z4, e, k⟩ := g1
  have hx := args_len eg1
  refine ⟨by rw [← r1.length, hx, hm], fun x dx hnx hdx hne => ?_⟩
  dsimp only at e
  split at e
  · rename_i h' hd
    cases e
    have R1 := R.new (o := .own x) hdx
    have hx2 : (upd H1 dx (.own x)) x = none := by rw [upd_ne (show x ≠ dx from fun c => hne c.symm)]; exact hnx
    have R2 := R1.1.new (o := .ins C dx []) hx2
    have R3 := R2.1.share R2.2 (d := .ins nm []) ⟨C, dx, [], hC, upd_same, rfl, .nil⟩
    obtain ⟨a1, a2⟩ := al (by rw [hx, hm]) (r1.mono (Same.refl _) (List.prefix_append rho2 [x]))
    refine ⟨by rw [List.length_cons, a2], F2, rho2 ++ [x], z2.h ++ [.ins nm []], .ref z2.h.length :: g xs, R3.1.rh, .cons (.ref R3.2) a1, .non, h', hd, fun F' rho' H' v e1 e2 r fr nf nr q => ?_⟩
    have hv : v = .non := by cases q; rfl
    refine ⟨hv, k F' rho' H' (.ref x) e1 ((List.prefix_append _ _).trans e2) (R3.1.called e1 e2 r fr nf nr) (.pure (.ref ?_))⟩
    obtain ⟨tl, ht⟩ := e2
    rw [← ht, List.getElem?_append_left (List.getElem?_eq_some_iff.mp R3.2).1]
    exact R3.2
  · cases e
end
end Mi

set_option Elab.async false
set_option linter.all false
set_option maxRecDepth 100000
/-! Mi, part T: what a def computes, over typed data: plain operations that may fail, loops, and how a body follows them. -/
namespace Mi
open PySem L2
/-! ### typed data as data -/
@[reducible] def eI (i : Int) : D := .int i
@[reducible] def eB (b : Bool) : D := .bl b
@[reducible] def eS (x : Str) : D := .str x
@[reducible] def eN (_ : Unit) : D := .non
@[reducible] def eD (d : D) : D := d
def eO {α : Type} (e : α → D) : Option α → D
  | none => .non
  | some x => e x
section
variable {α β γ δ ε ζ η θ ι κ : Type}
@[reducible] def eL (e : α → D) (xs : List α) : D := .lst (xs.map e)
@[reducible] def eU (e : α → D) (xs : List α) : D := .tup (xs.map e)
@[reducible] def e1 (a : α → D) (p : α) : D := .tup [a p]
@[reducible] def e2 (a : α → D) (b : β → D) (p : α × β) : D := .tup [a p.1, b p.2]
@[reducible] def e3 (a : α → D) (b : β → D) (c : γ → D) (p : α × β × γ) : D := .tup [a p.1, b p.2.1, c p.2.2]
@[reducible] def e4 (a : α → D) (b : β → D) (c : γ → D) (d : δ → D) (p : α × β × γ × δ) : D := .tup [a p.1, b p.2.1, c p.2.2.1, d p.2.2.2]
@[reducible] def e5 (a : α → D) (b : β → D) (c : γ → D) (d : δ → D) (e : ε → D) (p : α × β × γ × δ × ε) : D := .tup [a p.1, b p.2.1, c p.2.2.1, d p.2.2.2.1, e p.2.2.2.2]
@[reducible] def e6 (a : α → D) (b : β → D) (c : γ → D) (d : δ → D) (e : ε → D) (f : ζ → D) (p : α × β × γ × δ × ε × ζ) : D := .tup [a p.1, b p.2.1, c p.2.2.1, d p.2.2.2.1, e p.2.2.2.2.1, f p.2.2.2.2.2]
@[reducible] def e7 (a : α → D) (b : β → D) (c : γ → D) (d : δ → D) (e : ε → D) (f : ζ → D) (g : η → D) (p : α × β × γ × δ × ε × ζ × η) : D := .tup [a p.1, b p.2.1, c p.2.2.1, d p.2.2.2.1, e p.2.2.2.2.1, f p.2.2.2.2.2.1, g p.2.2.2.2.2.2]
/-- written tuples -/
@[reducible] def k2 (a : α → D) (b : β → D) (p : α × β) : D := .kt [a p.1, b p.2]
@[reducible] def k3 (a : α → D) (b : β → D) (c : γ → D) (p : α × β × γ) : D := .kt [a p.1, b p.2.1, c p.2.2]
end
/-! ### plain operations that may fail -/
namespace Pl
section
variable {α β γ σ ρ : Type}
def mul (i j : Int) : Option Int := if i.natAbs < 2 ^ bigN ∧ j.natAbs < 2 ^ bigN then some (i * j) else none
def div (i j : Int) : Option Int := if 0 < j ∧ j.natAbs < 2 ^ bigN then some (i / j) else none
def mod (i j : Int) : Option Int := if 0 < j then some (i % j) else none
def app (xs : List α) (x : α) : Option (List α) := if xs.length < szl then some (xs ++ [x]) else none
def cat (xs ys : List α) : Option (List α) := if xs.length + ys.length < szl then some (xs ++ ys) else none
def at_ (xs : List α) (i : Int) : Option α := atI xs i
def rng (a b : Int) : List Int := (List.range (b - a).toNat).map fun i : Nat => a + (i : Int)
def rngO (a b : Int) : Option (List Int) := if (-(2 ^ 62) ≤ a ∧ a < 2 ^ 62) ∧ -(2 ^ 62) ≤ b ∧ b < 2 ^ 62 then some (rng a b) else none
def andO (p : Bool) (o : Option Bool) : Option Bool := if p = true then o else some false
def orO (p : Bool) (o : Option Bool) : Option Bool := if p = true then some true else o
/-- a comprehension -/
def cmp (t : α → Option Bool) (f : α → Option β) : List α → Option (List β)
  | [] => some []
  | x :: xs => (t x).bind fun b => if b = true then (f x).bind fun y => (cmp t f xs).bind fun ys => some (y :: ys) else cmp t f xs
def comp (t : α → Option Bool) (f : α → Option β) (xs : List α) : Option (List β) := if xs.length ≤ szl then cmp t f xs else none
/-- .. whose elements go on with a state -/
def cmpS (f : α → σ → Option (β × σ)) : List α → σ → Option (List β × σ)
  | [], s => some ([], s)
  | x :: xs, s => (f x s).bind fun q => (cmpS f xs q.2).bind fun r => some (q.1 :: r.1, r.2)
def compS (f : α → σ → Option (β × σ)) (xs : List α) (s : σ) : Option (List β × σ) := if xs.length ≤ szl then cmpS f xs s else none
inductive Out (σ ρ : Type) where
  | go (s : σ) | brk (s : σ) | ret (r : ρ)
/-- for, without an exit -/
def forN (f : α → σ → Option σ) : List α → σ → Option σ
  | [], s => some s
  | x :: xs, s => (f x s).bind fun s => forN f xs s
/-- for, with exits -/
def forO (f : α → σ → Option (Out σ ρ)) : List α → σ → Option (σ ⊕ ρ)
  | [], s => some (.inl s)
  | x :: xs, s => match f x s with
    | none => none
    | some (.go s) => forO f xs s
    | some (.brk s) => some (.inl s)
    | some (.ret r) => some (.inr r)
def whO (t : σ → Option Bool) (f : σ → Option (Out σ ρ)) (s : σ) : Option (σ ⊕ ρ) := match t s with
  | none => none
  | some false => some (.inl s)
  | some true => match f s with
    | none => none
    | some (.go s) => whO t f s
    | some (.brk s) => some (.inl s)
    | some (.ret r) => some (.inr r)
partial_fixpoint
def draw (s : DS) (many : Int) : Option (Int × DS) := if 0 < many ∧ many ≤ 1000000000000 then some (drawV s many, drawS s many) else none
def take (s : TS) (many : Int) : Option (Int × TS) := if 0 < many then some (takeV s many, takeS s) else none
end
end Pl
/-! ### a body follows a plain term -/
def Rf {α : Type} (o : Option α) (c : C) (z : Z) (Φ : α → Fl → Z → Prop) : Prop := ∀ r, o = some r → ∃ f z', c z = some (f, z') ∧ Φ r f z'
theorem bI {α β : Type} {o : Option α} {K : α → Option β} {r : β} (h : o.bind K = some r) : ∃ t, o = some t ∧ K t = some r := by
  cases o with
  | none => cases h
  | some t => exact ⟨t, rfl, h⟩
section
variable {α β γ σ ρ : Type} {o : Option α} {c a b rest : C} {z z1 z2 : Z} {s s' s2 : List Sl} {h h1 : List D} {Φ Ψ : α → Fl → Z → Prop}
theorem Rf.imp (k : Rf o c z Ψ) (i : ∀ r f z, Ψ r f z → Φ r f z) : Rf o c z Φ := fun r e => by
  obtain ⟨f, z', e1, q⟩ := k r e
  exact ⟨f, z', e1, i r f z' q⟩
theorem Rf.bd {o : Option β} {K : β → Option α} (k : ∀ t, o = some t → Rf (K t) c z Φ) : Rf (o.bind K) c z Φ := fun r e => by
  obtain ⟨t, e1, e2⟩ := bI e
  exact k t e1 r e2
theorem seq_nx {a b : C} {z z1 : Z} (h : a z = some (.nx, z1)) : C.seq a b z = b z1 := by unfold C.seq; rw [h]
theorem Rf.nx (h1 : a z = some (.nx, z1)) (k : Rf o rest z1 Φ) : Rf o (C.seq a rest) z Φ := fun r e => by
  obtain ⟨f, z', e1, q⟩ := k r e
  exact ⟨f, z', by rw [seq_nx h1]; exact e1, q⟩
theorem Rf.skip (k : Rf o c z Φ) : Rf o (C.seq C.skip c) z Φ := k.nx rfl
theorem seq_skip (a : C) : C.seq a C.skip = a := by
  funext z
  unfold C.seq C.skip
  split
  · rename_i z1 h; rw [h]
  · rfl
theorem seq_assoc (a b c : C) : C.seq (C.seq a b) c = C.seq a (C.seq b c) := by
  funext z
  unfold C.seq
  cases h : a z with
  | none => rfl
  | some p =>
    obtain ⟨f, z1⟩ := p
    cases f <;> rfl
theorem Rf.last (k : Rf o (C.seq c C.skip) z Φ) : Rf o c z Φ := by rw [seq_skip] at k; exact k
theorem Rf.assoc (k : Rf o (C.seq a (C.seq b c)) z Φ) : Rf o (C.seq (C.seq a b) c) z Φ := by rw [seq_assoc]; exact k
theorem Rf.fin {r : α} (q : Φ r .nx z) : Rf (some r) C.skip z Φ := fun r' e => by cases e; exact ⟨_, _, rfl, q⟩
/-- x = e, by its value's name -/
theorem Rf.setT {i : Nat} {m : M D} {t : β} {K : β → Option α} (e : β → D) (he : m z = some (e t, ⟨s, h⟩)) (hp : ∀ x, isPure (e x) = true) {s' : β → List Sl} (hs : ∀ x, s.set i (.val (e x)) = s' x) (k : ∀ x, Rf (K x) rest ⟨s' x, h⟩ Φ) : Rf ((some t).bind K) (C.seq (C.set i m) rest) z Φ :=
  (k t).nx (cs_setN he (hp t) (hs t))
theorem Rf.set0 {i : Nat} {m : M D} {d : D} (he : m z = some (d, ⟨s, h⟩)) (hp : isPure d = true) (hs : s.set i (.val d) = s') (k : Rf o rest ⟨s', h⟩ Φ) : Rf o (C.seq (C.set i m) rest) z Φ :=
  k.nx (cs_setN he hp hs)
theorem Rf.asg0 {g : G} {m : M D} {d : D} (he : m z = some (d, z1)) (hp : isPure d = true) (hg : g.run d z1 = some z2) (k : Rf o rest z2 Φ) : Rf o (C.seq (C.asg g m) rest) z Φ :=
  k.nx (cs_asg he hp hg)
theorem Rf.par2 {i j : Nat} {x y : D} {ma mb : M D} (he : E.args [ma, mb] z = some ([x, y], ⟨s, h⟩)) (hs : (s.set i (.val x)).set j (.val y) = s') (k : Rf o rest ⟨s', h⟩ Φ) : Rf o (C.seq (C.par2 i j ma mb) rest) z Φ := k.nx (cs_par2 he hs)
theorem Rf.par3 {i j l : Nat} {x y w : D} {ma mb mc : M D} (he : E.args [ma, mb, mc] z = some ([x, y, w], ⟨s, h⟩)) (hs : ((s.set i (.val x)).set j (.val y)).set l (.val w) = s') (k : Rf o rest ⟨s', h⟩ Φ) : Rf o (C.seq (C.par3 i j l ma mb mc) rest) z Φ := k.nx (cs_par3 he hs)
theorem Rf.own0 {i : Nat} {m : M (List D)} {ds : List D} (he : m z = some (ds, ⟨s, h⟩)) (hn : i < s.length) (hs : s.set i (.own (.lst ds)) = s') (k : Rf o rest ⟨s', h⟩ Φ) : Rf o (C.seq (C.own i m) rest) z Φ :=
  k.nx (cs_ownN he hn hs)
theorem Rf.ownT {i : Nat} {m : M (List D)} {t : List β} {K : List β → Option α} (e : β → D) (he : m z = some (t.map e, ⟨s, h⟩)) (hn : i < s.length) {s' : List β → List Sl} (hs : ∀ x : List β, s.set i (.own (.lst (x.map e))) = s' x) (k : ∀ x, Rf (K x) rest ⟨s' x, h⟩ Φ) : Rf ((some t).bind K) (C.seq (C.own i m) rest) z Φ :=
  (k t).nx (cs_ownN he hn (hs t))
theorem Rf.frz {i : Nat} {ds : List D} (h1 : s[i]? = some (.own (.lst ds))) (hs : s.set i (.val (.lst ds)) = s') (k : Rf o rest ⟨s', h⟩ Φ) : Rf o (C.seq (C.frz i) rest) ⟨s, h⟩ Φ :=
  k.nx (cs_frzN h1 hs)
theorem Rf.drop {m : M D} {d : D} (he : m z = some (d, z1)) (k : Rf o rest z1 Φ) : Rf o (C.seq (C.drop m) rest) z Φ := k.nx (cs_drop he)
theorem Rf.aug0 {n : Nat} {x y d : D} {g : D → D → Z → Option D} {m : M D} (hx : z.s[n]? = some (.val x)) (he : m z = some (y, ⟨s, h⟩)) (hg : g x y ⟨s, h⟩ = some d) (hp : isPure d = true) (hs : s.set n (.val d) = s') (k : Rf o rest ⟨s', h⟩ Φ) : Rf o (C.seq (C.aug n g m) rest) z Φ := k.nx (cs_augN hx he hg hp hs)
theorem Rf.augT {n : Nat} {x y : D} {g : D → D → Z → Option D} {m : M D} {t : β} {K : β → Option α} (e : β → D) (hx : z.s[n]? = some (.val x)) (he : m z = some (y, ⟨s, h⟩)) (hg : g x y ⟨s, h⟩ = some (e t)) (hp : ∀ x, isPure (e x) = true) {s' : β → List Sl} (hs : ∀ x, s.set n (.val (e x)) = s' x) (k : ∀ x, Rf (K x) rest ⟨s' x, h⟩ Φ) : Rf ((some t).bind K) (C.seq (C.aug n g m) rest) z Φ := (k t).nx (cs_augN hx he hg (hp t) (hs t))
/-- xs.append(e) of a list that a slot owns -/
theorem Rf.app {i : Nat} {m : M D} {xs : List β} {t : β} {K : List β → Option α} (e : β → D) (hi : s[i]? = some (.own (.lst (xs.map e)))) (hm : m ⟨s, h⟩ = some (e t, ⟨s, h1⟩)) (hp : isPure (e t) = true) {s' : List β → List Sl} (hs : ∀ ys : List β, s.set i (.own (.lst (ys.map e))) = s' ys) (k : ∀ ys, Rf (K ys) rest ⟨s' ys, h1⟩ Φ) :
    Rf ((Pl.app xs t).bind K) (C.seq (C.drop (E.chg U.append (E.var i) [m])) rest) ⟨s, h⟩ Φ := Rf.bd fun ys hy => by
  unfold Pl.app at hy
  split at hy
  · rename_i hl
    cases hy
    refine (k (xs ++ [t])).nx (cs_drop (ev_chgN (ev_varO hi) hi (ev_args hm ev_args0 hp) hi (?_ : U.append _ _ = some (.non, (xs ++ [t]).map e)) (hs _)))
    unfold U.append
    dsimp only
    rw [if_pos (by rw [List.length_map]; exact hl), List.map_append]
    rfl
  · cases hy
/-- xs.extend(ys) -/
theorem Rf.ext {i : Nat} {m : M D} {xs t : List β} {K : List β → Option α} (e : β → D) (hi : s[i]? = some (.own (.lst (xs.map e)))) (hm : m ⟨s, h⟩ = some (.lst (t.map e), ⟨s, h1⟩)) {s' : List β → List Sl} (hs : ∀ ys : List β, s.set i (.own (.lst (ys.map e))) = s' ys) (k : ∀ ys, Rf (K ys) rest ⟨s' ys, h1⟩ Φ) :
    Rf ((Pl.cat xs t).bind K) (C.seq (C.drop (E.chg U.extend (E.var i) [m])) rest) ⟨s, h⟩ Φ := Rf.bd fun ys hy => by
  unfold Pl.cat at hy
  split at hy
  · rename_i hl
    cases hy
    refine (k (xs ++ t)).nx (cs_drop (ev_chgN (ev_varO hi) hi (ev_args hm ev_args0 rfl) hi (?_ : U.extend _ _ = some (.non, (xs ++ t).map e)) (hs _)))
    unfold U.extend
    dsimp only
    rw [if_pos (by rw [List.length_map, List.length_map]; exact hl), List.map_append]
  · cases hy
theorem Rf.ret {m : M D} {d : D} {r : α} (he : m z = some (d, z1)) (hp : isPure d = true) (q : Φ r (.rt d) z1) : Rf (some r) (C.seq (C.ret m) rest) z Φ := fun r' e => by
  cases e
  exact ⟨_, _, cs_rt (cs_ret he hp), q⟩
/-- .. of a list that a slot owns -/
theorem Rf.retO {n : Nat} {m : M D} {ds : List D} {r : α} (he : m z = some (.own n, ⟨s, h⟩)) (hn : s[n]? = some (.own (.lst ds))) (q : Φ r (.rt (.lst ds)) ⟨s.set n .no, h⟩) : Rf (some r) (C.seq (C.ret m) rest) z Φ := fun r' e => by
  cases e
  exact ⟨_, _, cs_rt (cs_retO he hn), q⟩
theorem Rf.retN {r : α} (q : Φ r (.rt .non) z) : Rf (some r) (C.seq C.retN rest) z Φ := fun r' e => by
  cases e
  exact ⟨_, _, cs_rt rfl, q⟩
theorem Rf.brk {r : α} (q : Φ r .bk z) : Rf (some r) (C.seq C.brk rest) z Φ := fun r' e => by
  cases e
  exact ⟨_, _, cs_bk rfl, q⟩
theorem Rf.cnt {r : α} (q : Φ r .ct z) : Rf (some r) (C.seq C.cnt rest) z Φ := fun r' e => by
  cases e
  exact ⟨_, _, cs_ct rfl, q⟩
theorem ite_seq {t : M Bool} {p : Bool} (ht : t z = some (p, z1)) : C.seq (C.ite t a b) rest z = if p = true then C.seq a rest z1 else C.seq b rest z1 := by
  cases p with
  | true => rw [if_pos rfl]; unfold C.seq C.ite bnd; rw [ht]; rfl
  | false => rw [if_neg (by decide)]; unfold C.seq C.ite bnd; rw [ht]; rfl
theorem Rf.ite {t : M Bool} {p : Bool} {oA oB : Option α} (ht : t z = some (p, z1)) (hA : Rf oA (C.seq a rest) z1 Φ) (hB : Rf oB (C.seq b rest) z1 Φ) : Rf (if p = true then oA else oB) (C.seq (C.ite t a b) rest) z Φ := fun r e => by
  rw [ite_seq ht]
  cases p with
  | true => exact hA r e
  | false => exact hB r e
/-- .. in a total def -/
theorem Rf.iteT {t : M Bool} {p : Bool} {x y : α} (ht : t z = some (p, z1)) (hA : Rf (some x) (C.seq a rest) z1 Φ) (hB : Rf (some y) (C.seq b rest) z1 Φ) : Rf (some (if p = true then x else y)) (C.seq (C.ite t a b) rest) z Φ := fun r e => by
  rw [ite_seq ht]
  cases p with
  | true => exact hA r e
  | false => exact hB r e
/-- a part, then on -/
theorem Rf.thn {o : Option β} {K : β → Option α} (J : β → Z → Prop) (h1 : Rf o a z fun v f z' => f = .nx ∧ J v z') (k : ∀ v z', J v z' → Rf (K v) rest z' Φ) : Rf (o.bind K) (C.seq a rest) z Φ := fun r e => by
  obtain ⟨t, e1, e2⟩ := bI e
  obtain ⟨f, z', e3, rfl, q⟩ := h1 t e1
  obtain ⟨f2, z2, e4, q2⟩ := k t z' q r e2
  exact ⟨f2, z2, by rw [seq_nx e3]; exact e4, q2⟩
/-- .. that may end all -/
theorem Rf.thnO {o : Option (β ⊕ ρ)} {K : β ⊕ ρ → Option α} (J : β → Z → Prop) (RT : ρ → Fl → Z → Prop) (h1 : Rf o a z fun v f z' => match v with | .inl v => f = .nx ∧ J v z' | .inr r => (∃ d, f = .rt d) ∧ RT r f z') (k : ∀ v z', J v z' → Rf (K (.inl v)) rest z' Φ)
    (q : ∀ r r' f z', K (.inr r) = some r' → (∃ d, f = .rt d) ∧ RT r f z' → Φ r' f z') : Rf (o.bind K) (C.seq a rest) z Φ := fun r e => by
  obtain ⟨t, e1, e2⟩ := bI e
  obtain ⟨f, z', e3, p⟩ := h1 t e1
  cases t with
  | inl v =>
    obtain ⟨rfl, p⟩ := p
    obtain ⟨f2, z2, e4, q2⟩ := k v z' p r e2
    exact ⟨f2, z2, by rw [seq_nx e3]; exact e4, q2⟩
  | inr u =>
    have q2 := q u r f z' e2 p
    obtain ⟨⟨d, rfl⟩, _⟩ := p
    exact ⟨_, _, cs_rt e3, q2⟩
theorem Rf.loopN {it : It} {g : G} {f : β → σ → Option σ} (hk : it.chk = none) (e : β → D) (J : σ → Z → Prop) (step : ∀ x v z, J v z → ∃ z1, g.run (e x) z = some z1 ∧ Rf (f x v) b z1 fun v f z' => (f = .nx ∨ f = .ct) ∧ J v z') : ∀ (xs : List β) (v : σ) (z : Z), J v z → Rf (Pl.forN f xs v) (C.loop it g b (xs.map e)) z fun v f z' => f = .nx ∧ J v z'
  | [], v, z, j => fun r q => by
    cases q
    exact ⟨_, _, loop_nil hk, rfl, j⟩
  | x :: xs, v, z, j => fun r q => by
    obtain ⟨t, q1, q2⟩ := bI (show (f x v).bind (fun s => Pl.forN f xs s) = some r from q)
    obtain ⟨z1, g1, w⟩ := step x v z j
    obtain ⟨fl, z2, w1, w2, j2⟩ := w t q1
    obtain ⟨f3, z3, w3, w4⟩ := Rf.loopN hk e J step xs t z2 j2 r q2
    refine ⟨f3, z3, ?_, w4⟩
    rw [List.map_cons]
    rcases w2 with rfl | rfl
    · exact loop_cons hk g1 w1 w3
    · exact loop_cons hk g1 w1 w3
theorem Rf.forN {mi : M It} {g : G} {f : β → σ → Option σ} {xs : List β} {v : σ} (e : β → D) (J : σ → Z → Prop) (hm : mi z = some (⟨xs.map e, none⟩, z1)) (h0 : J v z1) (step : ∀ x v z, J v z → ∃ z1, g.run (e x) z = some z1 ∧ Rf (f x v) b z1 fun v f z' => (f = .nx ∨ f = .ct) ∧ J v z') : Rf (Pl.forN f xs v) (C.for_ mi g b) z fun v f z' => f = .nx ∧ J v z' := fun r q => by
  obtain ⟨f3, z3, w3, w4⟩ := Rf.loopN (it := ⟨xs.map e, none⟩) rfl e J step xs v z1 h0 r q
  exact ⟨f3, z3, cs_for hm w3, w4⟩
theorem Rf.loopO {it : It} {g : G} {f : β → σ → Option (Pl.Out σ ρ)} (hk : it.chk = none) (e : β → D) (J : σ → Z → Prop) (RT : ρ → Fl → Z → Prop) (step : ∀ x v z, J v z → ∃ z1, g.run (e x) z = some z1 ∧ Rf (f x v) b z1 fun v f z' => match v with | .go v => (f = .nx ∨ f = .ct) ∧ J v z' | .brk v => f = .bk ∧ J v z' | .ret r => (∃ d, f = .rt d) ∧ RT r f z') :
    ∀ (xs : List β) (v : σ) (z : Z), J v z → Rf (Pl.forO f xs v) (C.loop it g b (xs.map e)) z fun v f z' => match v with | .inl v => f = .nx ∧ J v z' | .inr r => (∃ d, f = .rt d) ∧ RT r f z'
  | [], v, z, j => fun r q => by
    cases q
    exact ⟨_, _, loop_nil hk, rfl, j⟩
  | x :: xs, v, z, j => fun r q => by
    obtain ⟨z1, g1, w⟩ := step x v z j
    rw [Pl.forO] at q
    rw [List.map_cons]
    cases hf : f x v with
    | none => rw [hf] at q; cases q
    | some u =>
      rw [hf] at q
      obtain ⟨fl, z2, w1, w2⟩ := w u hf
      cases u with
      | go v2 =>
        obtain ⟨w2, j2⟩ := w2
        obtain ⟨f3, z3, w3, w4⟩ := Rf.loopO hk e J RT step xs v2 z2 j2 r q
        refine ⟨f3, z3, ?_, w4⟩
        rcases w2 with rfl | rfl
        · exact loop_cons hk g1 w1 w3
        · exact loop_cons hk g1 w1 w3
      | brk v2 =>
        obtain ⟨rfl, j2⟩ := w2
        cases q
        exact ⟨_, _, loop_cons hk g1 w1 rfl, rfl, j2⟩
      | ret r2 =>
        cases q
        have w3 := w2
        obtain ⟨⟨d, rfl⟩, _⟩ := w2
        exact ⟨_, _, loop_cons hk g1 w1 rfl, w3⟩
theorem Rf.forO {mi : M It} {g : G} {f : β → σ → Option (Pl.Out σ ρ)} {xs : List β} {v : σ} (e : β → D) (J : σ → Z → Prop) (RT : ρ → Fl → Z → Prop) (hm : mi z = some (⟨xs.map e, none⟩, z1)) (h0 : J v z1) (step : ∀ x v z, J v z → ∃ z1, g.run (e x) z = some z1 ∧ Rf (f x v) b z1 fun v f z' => match v with | .go v => (f = .nx ∨ f = .ct) ∧ J v z' | .brk v => f = .bk ∧ J v z' | .ret r => (∃ d, f = .rt d) ∧ RT r f z') :
    Rf (Pl.forO f xs v) (C.for_ mi g b) z fun v f z' => match v with | .inl v => f = .nx ∧ J v z' | .inr r => (∃ d, f = .rt d) ∧ RT r f z' := fun r q => by
  obtain ⟨f3, z3, w3, w4⟩ := Rf.loopO (it := ⟨xs.map e, none⟩) rfl e J RT step xs v z1 h0 r q
  exact ⟨f3, z3, cs_for hm w3, w4⟩
theorem Rf.whO {tt : M Bool} {t : σ → Option Bool} {f : σ → Option (Pl.Out σ ρ)} {v : σ} (J : σ → Z → Prop) (RT : ρ → Fl → Z → Prop) (test : ∀ v z, J v z → ∀ p, t v = some p → ∃ z1, tt z = some (p, z1) ∧ J v z1) (step : ∀ v z, J v z → Rf (f v) b z fun v f z' => match v with | .go v => (f = .nx ∨ f = .ct) ∧ J v z' | .brk v => f = .bk ∧ J v z' | .ret r => (∃ d, f = .rt d) ∧ RT r f z') (h0 : J v z) :
    Rf (Pl.whO t f v) (C.whl tt b) z fun v f z' => match v with | .inl v => f = .nx ∧ J v z' | .inr r => (∃ d, f = .rt d) ∧ RT r f z' := fun r q => by
  have key := Pl.whO.partial_correctness t f (fun v r => ∀ z, J v z → ∃ fl z', C.whl tt b z = some (fl, z') ∧ match r with | .inl v => fl = .nx ∧ J v z' | .inr r => (∃ d, fl = .rt d) ∧ RT r fl z') (fun W ih v r e z j => by
    cases ht : t v with
    | none => rw [ht] at e; cases e
    | some p =>
      rw [ht] at e
      obtain ⟨z1, w1, j1⟩ := test v z j p ht
      cases p with
      | false =>
        cases e
        exact ⟨_, _, whl_f w1, rfl, j1⟩
      | true =>
        dsimp only at e
        cases hf : f v with
        | none => rw [hf] at e; cases e
        | some u =>
          rw [hf] at e
          obtain ⟨fl, z2, w2, w3⟩ := step v z1 j1 u hf
          cases u with
          | go v2 =>
            obtain ⟨w3, j2⟩ := w3
            obtain ⟨f3, z3, w4, w5⟩ := ih v2 r e z2 j2
            refine ⟨f3, z3, ?_, w5⟩
            rw [C.whl, w1]
            dsimp only
            rw [w2]
            rcases w3 with rfl | rfl
            · exact w4
            · exact w4
          | brk v2 =>
            obtain ⟨rfl, j2⟩ := w3
            cases e
            exact ⟨_, _, whl_bk w1 w2, rfl, j2⟩
          | ret r2 =>
            cases e
            have w4 := w3
            obtain ⟨⟨d, rfl⟩, _⟩ := w3
            exact ⟨_, _, whl_rt w1 w2, w4⟩)
  exact key v r q z h0
theorem Rf.fn {n k : Nat} {ds : List D} {e : α → D} {hp : α → List D} {r : α} (hl : ds.length = k) (hs : slots n ds = s) (hb : Rf o c ⟨s, h⟩ fun r f z' => (f = .rt (e r) ∨ (f = .nx ∧ e r = .non)) ∧ z'.h = hp r) (hr : o = some r) : Mi.fn n k c ds h = some (e r, hp r) := by
  obtain ⟨f, z', e1, q, q2⟩ := hb r hr
  unfold Mi.fn
  rw [if_pos hl, hs, e1]
  rcases q with rfl | ⟨rfl, q⟩
  · rw [← q2]
  · rw [← q2, q]
end
/-! ### expressions -/
section
variable {α β γ : Type} {x y d : D} {a b m : M D} {t u : M Bool} {z z1 z2 : Z} {s s' s2 : List Sl} {h h1 : List D} {i j k : Int} {p q : Bool}
theorem ev_mulP (h1 : a z = some (.int i, z1)) (h2 : b z1 = some (.int j, z2)) (e : Pl.mul i j = some k) : E.op O.mul a b z = some (.int k, z2) := by
  unfold Pl.mul at e
  split at e
  · rename_i c
    cases e
    exact ev_op h1 h2 (mul_v c.1 c.2)
  · cases e
theorem ev_divP (h1 : a z = some (.int i, z1)) (h2 : b z1 = some (.int j, z2)) (e : Pl.div i j = some k) : E.op O.div a b z = some (.int k, z2) := by
  unfold Pl.div at e
  split at e
  · rename_i c
    cases e
    exact ev_op h1 h2 (div_v c.1 c.2)
  · cases e
theorem ev_modP (h1 : a z = some (.int i, z1)) (h2 : b z1 = some (.int j, z2)) (e : Pl.mod i j = some k) : E.op O.mod a b z = some (.int k, z2) := by
  unfold Pl.mod at e
  split at e
  · rename_i c
    cases e
    exact ev_op h1 h2 (mod_v c)
  · cases e
theorem atI_map {xs : List α} {e : α → D} {r : α} (h : Pl.at_ xs i = some r) : atI (xs.map e) i = some (e r) := by
  unfold Pl.at_ atI at h
  unfold atI
  rw [List.length_map]
  cases hn : ixN xs.length i with
  | none => rw [hn] at h; cases h
  | some n =>
    rw [hn] at h
    have h : xs[n]? = some r := h
    show (xs.map e)[n]? = _
    rw [List.getElem?_map, h]
    rfl
theorem ev_ixP {tt : Bool} {xs : List α} {e : α → D} {r : α} (h1 : a z = some (x, z1)) (h2 : b z1 = some (.int i, z2)) (h3 : cont x z2 = some (tt, xs.map e)) (h4 : Pl.at_ xs i = some r) : E.op O.ix a b z = some (e r, z2) := ev_ix h1 h2 h3 (atI_map h4)
theorem ev_andO {o : Option Bool} {r : Bool} (h1 : a z = some (.bl p, z)) (h2 : ∀ q, o = some q → b z = some (.bl q, z)) (e : Pl.andO p o = some r) : E.and a b z = some (.bl r, z) := by
  unfold Pl.andO at e
  cases p with
  | true => rw [ev_and h1 fun _ => h2 r e]; rfl
  | false => cases e; rw [ev_and (q := true) h1 fun h => nomatch h]; rfl
theorem ev_orO {o : Option Bool} {r : Bool} (h1 : a z = some (.bl p, z)) (h2 : ∀ q, o = some q → b z = some (.bl q, z)) (e : Pl.orO p o = some r) : E.or a b z = some (.bl r, z) := by
  unfold Pl.orO at e
  cases p with
  | true => cases e; rw [ev_or (q := true) h1 fun h => nomatch h]; rfl
  | false => rw [ev_or h1 fun _ => h2 r e]; rfl
theorem tt_andO {o : Option Bool} {r : Bool} (h1 : t z = some (p, z)) (h2 : ∀ q, o = some q → u z = some (q, z)) (e : Pl.andO p o = some r) : T.and t u z = some (r, z) := by
  unfold Pl.andO at e
  cases p with
  | true => rw [tt_and h1 fun _ => h2 r e]; rfl
  | false => cases e; rw [tt_and (q := true) h1 fun h => nomatch h]; rfl
theorem tt_orO {o : Option Bool} {r : Bool} (h1 : t z = some (p, z)) (h2 : ∀ q, o = some q → u z = some (q, z)) (e : Pl.orO p o = some r) : T.or t u z = some (r, z) := by
  unfold Pl.orO at e
  cases p with
  | true => cases e; rw [tt_or (q := true) h1 fun h => nomatch h]; rfl
  | false => rw [tt_or h1 fun _ => h2 r e]; rfl
theorem ev_iteE {e : α → D} {v w : α} (h1 : t z = some (p, z1)) (h2 : a z1 = some (e v, z2)) (h3 : b z1 = some (e w, z2)) : E.ite t a b z = some (e (if p = true then v else w), z2) := by
  cases p with
  | true => exact ev_iteT h1 h2
  | false => exact ev_iteF h1 h3
theorem ev_iteO {e : α → D} {ov ow : Option α} {r : α} (h1 : t z = some (p, z1)) (h2 : ∀ v, ov = some v → a z1 = some (e v, z2)) (h3 : ∀ v, ow = some v → b z1 = some (e v, z2)) (hr : (if p = true then ov else ow) = some r) : E.ite t a b z = some (e r, z2) := by
  cases p with
  | true => exact ev_iteT h1 (h2 r hr)
  | false => exact ev_iteF h1 (h3 r hr)
/-- what is not None is what it is -/
theorem ev_unO {e : α → D} {o : Option α} {r : α} (h1 : m z = some (eO e o, z1)) (hr : o = some r) : m z = some (e r, z1) := by subst hr; exact h1
theorem nonE {e : α → D} (he : ∀ x, isNon (e x) = false) (o : Option α) : isNon (eO e o) = o.isNone := by
  cases o with
  | none => rfl
  | some x => exact he x
theorem notNonE {e : α → D} (he : ∀ x, isNon (e x) = false) (o : Option α) : (!isNon (eO e o)) = o.isSome := by
  cases o with
  | none => rfl
  | some x => exact congrArg not (he x)
theorem pureO {e : α → D} (he : ∀ x, isPure (e x) = true) (o : Option α) : isPure (eO e o) = true := by
  cases o with
  | none => rfl
  | some x => exact he x
theorem ev_rngP {ma mb : M D} {r : List Int} (h1 : ma z = some (.int i, z1)) (h2 : mb z1 = some (.int j, z2)) (hr : Pl.rngO i j = some r) : I.rng2 ma mb z = some (⟨r.map eI, none⟩, z2) := by
  unfold Pl.rngO at hr
  split at hr
  · rename_i c
    cases hr
    rw [ev_rng2 h1 h2 c]
    unfold I.irng Pl.rng
    rw [List.map_map]
    rfl
  · cases hr
theorem ev_rngP1 {ma : M D} {r : List Int} (h1 : ma z = some (.int j, z1)) (hr : Pl.rngO 0 j = some r) : I.rng1 ma z = some (⟨r.map eI, none⟩, z1) := by
  unfold Pl.rngO at hr
  split at hr
  · rename_i c
    cases hr
    rw [ev_rng1 h1 c.2]
    unfold I.irng Pl.rng
    rw [List.map_map, Int.sub_zero]
    rfl
  · cases hr
theorem ev_itsP {xs : List α} {e : α → D} (h1 : a z = some (x, z1)) (h2 : itemsOf x = some (xs.map e)) : I.seq a z = some (⟨xs.map e, none⟩, z1) := ev_seq h1 h2
theorem ev_itsC {xs : List α} {e : α → D} (h1 : a z = some (x, z1)) (h2 : itemsOf x = some (xs.map e)) : I.seqC a z = some (⟨xs.map e, none⟩, z1) := ev_seqC h1 h2
theorem F_lenM {xs : List α} {e : α → D} {tt : Bool} (h : cont x z = some (tt, xs.map e)) : F.len [x] z = some (.int xs.length) := by
  rw [lf_len h, List.length_map]
theorem tru_map {xs : List α} {e : α → D} : O.tru (.lst (xs.map e)) z = some (!xs.isEmpty) := by cases xs <;> rfl
theorem tru_own {xs : List α} {e : α → D} {n : Nat} (h : z.s[n]? = some (.own (.lst (xs.map e)))) : O.tru (.own n) z = some (!xs.isEmpty) := by
  unfold O.tru cont
  dsimp only
  rw [h]
  cases xs <;> rfl
theorem F_all {bs : List Bool} (h : cont x z = some (false, bs.map eB)) : F.all1 [x] z = some (.bl (bs.all id)) := by
  show (F.lstB x z).map (fun bs => D.bl (bs.all id)) = _
  unfold F.lstB
  rw [h]
  dsimp only
  have e : ∀ bs : List Bool, F.ofBools (bs.map eB) = some bs := fun bs => by
    induction bs with
    | nil => rfl
    | cons b bs ih => rw [List.map_cons, F.ofBools, ih]; rfl
  rw [e]; rfl
theorem F_any {bs : List Bool} (h : cont x z = some (false, bs.map eB)) : F.any1 [x] z = some (.bl (bs.any id)) := by
  show (F.lstB x z).map (fun bs => D.bl (bs.any id)) = _
  unfold F.lstB
  rw [h]
  dsimp only
  have e : ∀ bs : List Bool, F.ofBools (bs.map eB) = some bs := fun bs => by
    induction bs with
    | nil => rfl
    | cons b bs ih => rw [List.map_cons, F.ofBools, ih]; rfl
  rw [e]; rfl
theorem ofInts_map (ns : List Int) : F.ofInts (ns.map eI) = some ns := by
  induction ns with
  | nil => rfl
  | cons b bs ih => rw [List.map_cons, F.ofInts, ih]; rfl
theorem F_sum {ns : List Int} (h : cont x z = some (false, ns.map eI)) : F.sum [x] z = some (.int ns.sum) := by
  show (F.lstI x z).map (fun ns => D.int ns.sum) = _
  unfold F.lstI
  rw [h]
  dsimp only
  rw [ofInts_map]; rfl
theorem F_maxR {ns : List Int} {tt : Bool} {r : Int} (h : cont x z = some (tt, ns.map eI)) (hr : F.maxL ns = some r) : F.maxR [x] z = some (.int r) := by
  cases ns with
  | nil => cases hr
  | cons n ns =>
    cases hr
    exact lf_maxR h (ofInts_map (n :: ns))
theorem F_minR {ns : List Int} {tt : Bool} {r : Int} (h : cont x z = some (tt, ns.map eI)) (hr : F.minL ns = some r) : F.minR [x] z = some (.int r) := by
  cases ns with
  | nil => cases hr
  | cons n ns =>
    cases hr
    exact lf_minR h (ofInts_map (n :: ns))
end
/-! ### comprehensions -/
section
variable {α β σ : Type} {z z1 : Z} {s s' s2 : List Sl} {h : List D}
theorem cmp_loop {it : It} {g : G} {vs : List Nat} {tt : M Bool} {te : M D} {t : α → Option Bool} {f : α → Option β} (e : α → D) (e' : β → D) (ok : it.ok ⟨s', h⟩ = true)
    (step : ∀ x, ∃ za sa, g.run (e x) ⟨s', h⟩ = some za ∧ (∀ b, t x = some b → tt za = some (b, ⟨sa, h⟩)) ∧ N.wipe sa vs = s' ∧ (∀ y, f x = some y → ∃ sb, te ⟨sa, h⟩ = some (e' y, ⟨sb, h⟩) ∧ isPure (e' y) = true ∧ N.wipe sb vs = s')) :
    ∀ (xs : List α) (acc : List D) (ys : List β), Pl.cmp t f xs = some ys → N.loop it g vs tt te (xs.map e) acc ⟨s', h⟩ = some (acc ++ ys.map e', ⟨s', h⟩)
  | [], acc, ys, q => by
    cases q
    rw [List.map_nil, N.loop, if_pos ok, List.map_nil, List.append_nil]
  | x :: xs, acc, ys, q => by
    obtain ⟨za, sa, g1, t1, w1, f1⟩ := step x
    obtain ⟨b, q1, q2⟩ := bI (show (t x).bind _ = some ys from q)
    rw [List.map_cons, N.loop, if_pos ok, g1]
    dsimp only
    rw [t1 b q1]
    cases b with
    | false =>
      dsimp only
      rw [w1]
      exact cmp_loop e e' ok step xs acc ys q2
    | true =>
      obtain ⟨y, q3, q4⟩ := bI (show (f x).bind _ = some ys from q2)
      obtain ⟨ys2, q5, q6⟩ := bI q4
      cases q6
      obtain ⟨sb, f2, f3, f4⟩ := f1 y q3
      dsimp only
      rw [f2]
      dsimp only
      rw [if_pos f3, f4, cmp_loop e e' ok step xs _ ys2 q5, List.append_assoc]
      rfl
theorem ev_cmp {mi : M It} {chk : Option D} {g : G} {vs : List Nat} {tt : M Bool} {te : M D} {t : α → Option Bool} {f : α → Option β} {xs : List α} {ys : List β} (e : α → D) (e' : β → D) (hm : mi z = some (⟨xs.map e, chk⟩, ⟨s, h⟩)) (ho : (vs.all fun v => !N.isOwn s[v]?) = true) (hw : N.wipe s vs = s') (ok : (⟨xs.map e, chk⟩ : It).ok ⟨s', h⟩ = true) (hr : N.rest s s' vs = s2)
    (step : ∀ x, ∃ za sa, g.run (e x) ⟨s', h⟩ = some za ∧ (∀ b, t x = some b → tt za = some (b, ⟨sa, h⟩)) ∧ N.wipe sa vs = s' ∧ (∀ y, f x = some y → ∃ sb, te ⟨sa, h⟩ = some (e' y, ⟨sb, h⟩) ∧ isPure (e' y) = true ∧ N.wipe sb vs = s'))
    (q : Pl.comp t f xs = some ys) : N.comp mi g vs tt te z = some (ys.map e', ⟨s2, h⟩) := by
  unfold Pl.comp at q
  split at q
  · rename_i hl
    have k := cmp_loop e e' ok step xs [] ys q
    rw [List.nil_append] at k
    exact ev_compN hm (by rw [List.length_map]; exact hl) ho hw k hr
  · cases q
/-- .. the heap goes on with a state -/
theorem cmpS_loop {it : It} {g : G} {vs : List Nat} {te : M D} {f : α → σ → Option (β × σ)} (e : α → D) (e' : β → D) (hp : σ → List D) (hk : it.chk = none)
    (step : ∀ x v, ∃ za, g.run (e x) ⟨s', hp v⟩ = some za ∧ (∀ y, f x v = some y → ∃ sb, te za = some (e' y.1, ⟨sb, hp y.2⟩) ∧ isPure (e' y.1) = true ∧ N.wipe sb vs = s')) :
    ∀ (xs : List α) (v : σ) (acc : List D) (r : List β × σ), Pl.cmpS f xs v = some r → N.loop it g vs (Mi.ret true) te (xs.map e) acc ⟨s', hp v⟩ = some (acc ++ r.1.map e', ⟨s', hp r.2⟩)
  | [], v, acc, r, q => by
    cases q
    have ok : it.ok ⟨s', hp v⟩ = true := by unfold It.ok; rw [hk]
    rw [List.map_nil, N.loop, if_pos ok, List.map_nil, List.append_nil]
  | x :: xs, v, acc, r, q => by
    have ok : it.ok ⟨s', hp v⟩ = true := by unfold It.ok; rw [hk]
    obtain ⟨za, g1, f1⟩ := step x v
    obtain ⟨y, q1, q2⟩ := bI (show (f x v).bind _ = some r from q)
    obtain ⟨r2, q3, q4⟩ := bI q2
    cases q4
    obtain ⟨sb, f2, f3, f4⟩ := f1 y q1
    rw [List.map_cons, N.loop, if_pos ok, g1]
    show (match te za with | none => none | some (x, z3) => if isPure x = true then N.loop it g vs (Mi.ret true) te (xs.map e) (acc ++ [x]) ⟨N.wipe z3.s vs, z3.h⟩ else none) = _
    rw [f2]
    dsimp only
    rw [if_pos f3, f4, cmpS_loop e e' hp hk step xs _ _ r2 q3, List.append_assoc]
    rfl
theorem ev_cmpS {mi : M It} {g : G} {vs : List Nat} {te : M D} {f : α → σ → Option (β × σ)} {xs : List α} {v : σ} {r : List β × σ} (e : α → D) (e' : β → D) (hp : σ → List D) (hm : mi z = some (⟨xs.map e, none⟩, ⟨s, hp v⟩)) (ho : (vs.all fun v => !N.isOwn s[v]?) = true) (hw : N.wipe s vs = s') (hr : N.rest s s' vs = s2)
    (step : ∀ x v, ∃ za, g.run (e x) ⟨s', hp v⟩ = some za ∧ (∀ y, f x v = some y → ∃ sb, te za = some (e' y.1, ⟨sb, hp y.2⟩) ∧ isPure (e' y.1) = true ∧ N.wipe sb vs = s'))
    (q : Pl.compS f xs v = some r) : N.comp mi g vs (Mi.ret true) te z = some (r.1.map e', ⟨s2, hp r.2⟩) := by
  unfold Pl.compS at q
  split at q
  · rename_i hl
    have k := cmpS_loop (it := ⟨xs.map e, none⟩) (te := te) e e' hp rfl step xs v [] r q
    rw [List.nil_append] at k
    exact ev_compN hm (by rw [List.length_map]; exact hl) ho hw k hr
  · cases q
end
end Mi

set_option Elab.async false
set_option linter.all false
set_option maxRecDepth 100000
/-! Mi, part U: sorted(xs, key=lambda x: (x[i], x[j], ..)). -/
namespace Mi
open PySem PySem.Spec PyProof.Rows L2 PySem.W
def intAt (xs : List D) (i : Nat) : Option Int := match xs[i]? with
  | some (D.int n) => some n
  | _ => none
def keyI (iz : List Nat) : D → Option (List Int)
  | .tup xs => iz.mapM (intAt xs)
  | _ => none
/-- the key of a tuple by some of its places -/
def ikey (iz : List Nat) (d : D) : PyData := .tuple (((keyI iz d).getD []).map .int)
def N.sortedK (iz : List Nat) (m : M D) : M (List D) := bnd m fun x z => match cont x z with
  | some (false, ds) => if ds.length ≤ szl ∧ (ds.all fun d => (keyI iz d).isSome) = true then some (srt (ikey iz) ds, z) else none
  | _ => none
/-- the elements of the lambda's tuple -/
inductive KeyEs (x : Str) : List Expr → List Nat → Prop
  | nil : KeyEs x [] []
  | cons {p1 p2 p3 : Pos} {j} {n : Nat} {es : List Expr} {iz : List Nat} : KeyEs x es iz → KeyEs x (.Subscript (.Name x p1) (.Constant (.int (n : Int)) j p2) p3 :: es) (n :: iz)
theorem alike_ints : ∀ ns ms : List Int, alikeAll (ns.map PyData.int) (ms.map PyData.int) = true
  | [], _ => rfl
  | _ :: _, [] => rfl
  | n :: ns, m :: ms => by
    rw [List.map_cons, List.map_cons, alikeAll, alike, alike_ints ns ms]
    rfl
theorem ikey_alike (iz : List Nat) (ds : List D) : AllAlike (ds.map (ikey iz)) := by
  intro a ha b hb
  obtain ⟨x, _, rfl⟩ := List.mem_map.mp ha
  obtain ⟨y, _, rfl⟩ := List.mem_map.mp hb
  unfold ikey
  rw [alike]
  exact alike_ints _ _
theorem keyI_len {xs : List D} : ∀ {iz : List Nat} {ns : List Int}, iz.mapM (intAt xs) = some ns → ns.length = iz.length
  | [], ns, h => by
    rw [List.mapM_nil] at h
    cases h
    rfl
  | i :: iz, ns, h => by
    rw [List.mapM_cons] at h
    obtain ⟨n, h1, h2⟩ := bI h
    obtain ⟨ms, h3, h4⟩ := bI h2
    cases h4
    rw [List.length_cons, List.length_cons, keyI_len h3]
theorem ikey_sortable {iz : List Nat} {ds : List D} (hz : iz ≠ []) (h : (ds.all fun d => (keyI iz d).isSome) = true) : PySem.W.Sortable (ds.map (ikey iz)) := by
  refine .inl fun a ha => ?_
  obtain ⟨x, hx, rfl⟩ := List.mem_map.mp ha
  have q := List.all_eq_true.mp h x hx
  unfold ikey
  cases hk : keyI iz x with
  | none => rw [hk] at q; cases q
  | some ns =>
    rw [Option.getD_some]
    have hl : ns.length = iz.length := by
      cases x with
      | tup xs => exact keyI_len hk
      | _ => cases hk
    cases ns with
    | nil =>
      cases iz with
      | nil => exact absurd rfl hz
      | cons _ _ => cases hl
    | cons n ns => exact ⟨_, _, rfl⟩
theorem ikey_depth (iz : List Nat) (d : D) : (ikey iz d).depth ≤ 1 := by
  have k : ∀ ns : List Int, PyData.depthAll (ns.map PyData.int) = 0 := fun ns => by
    induction ns with
    | nil => simp [PyData.depthAll]
    | cons n ns ih => simp [PyData.depthAll, PyData.depth, ih]
  unfold ikey
  simp [PyData.depth, k]
/-! ### the lambda, raw -/
section
variable {prog : Program} {w : World} {A : Around} {E : Value → Shared → Prop} {s : Shared} {env : Env} {m : Str → Option Value} {x : Str} {t : Addr} {its : Array Value}
/-- which numbers stand at the places -/
def IntsAt (its : Array Value) : List Nat → List Int → List Value → Prop
  | [], [], [] => True
  | i :: iz, n :: ns, v :: vs => (∃ tk, v = .int n tk ∧ its[i]? = some v) ∧ IntsAt its iz ns vs
  | _, _, _ => False
theorem IntsAt.ints {its : Array Value} : ∀ {iz : List Nat} {ns : List Int} {vs : List Value} {h : Heap}, IntsAt its iz ns vs → ReadsAll h vs (ns.map PyData.int) []
  | [], [], [], _, _ => .nil
  | i :: iz, n :: ns, v :: vs, h, ⟨⟨tk, e, _⟩, r⟩ => by
    subst e
    exact ReadsAll.cons (as := []) (bs := []) (.int n tk) (IntsAt.ints r)
theorem key_args {pos : Pos} (hk : env.scope.kind = .function) (hl : env.kindOf x = some .local) (hd : (x == ("__debug__" : Str)) = false) (hm : m x = some (.ref t)) (hz : its.size ≤ sizeLine) {es : List Expr} {iz : List Nat} (ke : KeyEs x es iz) :
    ∀ {ns : List Int} {vs : List Value} {s : Shared} {Q : List Value → Shared → Prop}, s.heap.Ns env.locals m → IsTup s.heap t its → IntsAt its iz ns vs → (∀ tk, Q vs { s with toks := tk }) → wpAny (model prog w) A (spliced (backTo pos (starEach es env))) Q E s := by
  induction ke with
  | nil =>
    intro ns vs s Q hn ht hi hq
    cases ns <;> cases vs <;> first | exact hi.elim | exact args_nil (hq s.toks)
  | @cons p1 p2 p3 j n es iz ke ih =>
    intro ns vs s Q hn ht hi hq
    cases ns with
    | nil => cases vs <;> exact hi.elim
    | cons i ns =>
      cases vs with
      | nil => exact hi.elim
      | cons v vs =>
        obtain ⟨⟨tk, e, hv⟩, hi⟩ := hi
        have hlt : n < its.size := (Array.getElem?_eq_some_iff.mp hv).1
        have hln := line63
        refine args_cons (Subscript_ (wpAny_Name (wpAny_loadName_local hk hl hn hm (wpAny_Constant_int ?_)) hd)) rfl
        refine subscriptTail_builtinR (x := v) (s := { s with toks := s.toks + 1 }) (T := "tuple") ⟨_, ht.choose_spec.1, ht.choose_spec.2.1⟩ slot_tuple_getitem.lookup (getItem_tuple (j := n) (x := v) (s := { s with toks := s.toks + 1 }) ht (by omega) (by omega) ?_ hv ⟨rfl, ?_⟩) (by with_unfolding_all rfl)
        · rw [seqIndex_of (by omega) (by omega)]
          rw [Int.toNat_natCast]
        · exact ih (s := { s with toks := s.toks + 1 }) hn ht hi fun tk => hq tk
end
/-- the lambda's scope: its parameter, no other name of its own -/
structure Lam1 (x : Str) (params : Arguments) (scope : Scope) : Prop where
  kind : scope.kind = .function
  co : scope.isCoroutine = false
  gen : scope.isGenerator = false
  noCell : ∀ y ∈ scope.names, y.2 ≠ .cell
  noFree : ∀ y ∈ scope.names, y.2 ≠ .free
  loc : scope.names.lookup x = some .local
  bind : ∀ (q : Str) (body : Expr) (pm c ct v : Value), bindArgs (kla_fn "<lambda>" q params body scope [] pm c ct) ⟨[v], []⟩ = pure [(x, v)]
  df : ∀ env : Env, defaultsOf params env = ([], [])
  dbg : (x == ("__debug__" : Str)) = false
theorem clo_nil {cells : List (Str × Addr)} : ∀ {ns : List (Str × NameKind)} {acc : List (Str × Addr)}, (∀ y ∈ ns, y.2 ≠ .free) → cloFrom cells ns acc = acc
  | [], acc, _ => rfl
  | (n, k) :: r, acc, h => by
    have hk : (k == NameKind.free) = false := by
      have := h _ List.mem_cons_self
      cases k <;> first | rfl | exact absurd rfl this
    rw [cloFrom, hk]
    exact clo_nil fun y hy => h y (List.mem_cons_of_mem _ hy)
/-- the lambda called with one tuple -/
theorem lam_key {q : Str} {params : Arguments} {scope : Scope} {es : List Expr} {kt : Nat} {pt : Pos} {pm ctv : Value} {f c' t : Addr} {its : Array Value} {iz : List Nat} {ns : List Int} {vs : List Value} (L : Lam1 x params scope) (ke : KeyEs x es iz) (dp : A.depth < recursionLimit) (lim : s.heap.NoLimit)
    (hf : s.heap.get? f = some (kla_obj "<lambda>" q params (.Tuple es kt pt) scope [] pm c' ctv)) (hc : s.heap.CodeRec (.ref c') q) (ht : IsTup s.heap t its) (hz : its.size ≤ sizeLine) (hi : IntsAt its iz ns vs) (hvl : vs.length ≤ sizeLine) :
    wpAny (model prog w) A (call (.ref f) [.ref t]) (KeyPure (.tuple (ns.map .int)) s) (fun _ _ => False) s := by
  refine wpAny_call (kla_callFunE dp hf rfl L.co L.gen rfl hc ?_)
  rw [L.bind]
  refine wpAny_pure (wpAny_newFunctionEnv L.noCell (fun y hy => ?_) (fun h₁ hns hsb => ⟨lim.fresh _ hsb, ?_⟩) L.kind)
  · rw [List.mem_singleton] at hy
    subst hy
    exact L.loc
  have kp : ∀ b o, s.heap.get? b = some o → h₁.get? b = some o := fun b o e => hsb.extBut b o (Nat.ne_of_lt (Heap.lt_size e)) (Heap.get?_push_of_some _ e)
  show codeAny _ _ (.expr _ (envX q scope s.heap.objs.size f (.ref c') [])) _ _
  refine kla_codeExpr (wpAny_Tuple_spliced (key_args (env := envX q scope s.heap.objs.size f (.ref c') []) (m := fun y => [(x, Value.ref t)].reverse.lookup y) (x := x) (t := t) (its := its) L.kind (show scope.names.lookup x = some .local from L.loc) L.dbg ?_ hz ke hns (ht.keeps kp) hi fun tk => ⟨hvl, ?_⟩))
  · show List.lookup x [(x, Value.ref t)] = _
    rw [List.lookup_cons, beq_self_eq_true]
  · refine ⟨_, tk, rfl, fun b o e => Heap.get?_push_of_some _ (kp b o e), ?_⟩
    exact Reads.tuple (Heap.get?_push_size _ rfl) rfl rfl hi.ints
/-! ### the lambda made: the table grows -/
def Made (P : Addr) (q : Str) (H H1 : Hp) : Prop := H1 = H ∨ ∃ (ps more : Array Value) (cn : Addr), H P = some (.tbl ps) ∧ H cn = none ∧ H1 = upd (upd H P (.tbl (ps ++ more))) cn (LamX.CodeO cn q) ∧ TriplesOk (ps ++ more).toList ∧
  ∀ (pos : Pos) (cv : Value), codeAmong pos (ps ++ more).toList = some cv → codeAmong pos ps.toList = some cv ∨ cv = .ref cn
theorem Made.keep {P : Addr} {q : Str} {H H1 : Hp} (m : Made P q H H1) {b : Addr} {o : HO} (e : H b = some o) (n : b ≠ P) : H1 b = some o := by
  rcases m with rfl | ⟨ps, more, cn, hP, hc, rfl, _, _⟩
  · exact e
  · rw [upd_ne (ne_of_none e hc), upd_ne n]
    exact e
theorem lam_make3 {X : Cx} {pins : List (Addr × Obj)} {σ : L2.St} {H : Hp} {s : Shared} {c P : Addr} {params : Arguments} {body : Expr} {scope : Scope} {pos : Pos} {E : Value → Shared → Prop} {Q : Value → Shared → Prop} {ps : Array Value} (I : Inv X pins σ H s) (TB : LamX.TabB X.base X.mg c P) (hcode : X.env.code = .ref c)
    (hP : H P = some (.tbl ps)) (ht : TriplesOk ps.toList) (ha : ∀ (pos : Pos) (cv : Value), codeAmong pos ps.toList = some cv → ∃ c, cv = .ref c ∧ H c = some (LamX.CodeO c (X.env.qual ++ "<lambda>"))) (hdef : defaultsOf params X.env = ([], [])) (hnf : ∀ y ∈ scope.names, y.2 ≠ .free)
    (h : ∀ (f cn : Addr) (pm ctv : Value) (H1 : Hp) (s1 : Shared), Inv X pins σ H1 s1 → Made P (X.env.qual ++ "<lambda>") H H1 → s1.heap.get? f = some (kla_obj "<lambda>" (X.env.qual ++ "<lambda>") params body scope [] pm cn ctv) → s1.heap.CodeRec (.ref cn) (X.env.qual ++ "<lambda>") → Q (.ref f) s1) :
    wpAny (model X.prog X.w) X.A (eval (.Lambda params body scope pos) X.env) Q E s := by
  have clo : closureFor scope X.env = pure [] := by
    have e := closure_ok (scope := scope) (env := X.env) fun y hy e => absurd e (hnf y hy)
    rw [clo_nil hnf] at e
    exact e
  have atP : s.heap.get? P = some { cls := .none, data := .fields ps } := I.hok P _ hP
  apply kla_eval hdef
  cases hc : codeAmong pos ps.toList with
  | none =>
    apply kla_makeFunction (mg := X.mg) (c := c) (P := P) (ps := ps) clo I.ok.glob (I.mod.glob.keeps I.bk) hcode (TB.code.keeps I.bk) atP ht hc TB.gP (TB.bm.keeps I.bk)
    intro cn ctv hp tk ext ge lt rec tab
    obtain ⟨c2, oc, vs, t, e2, hoc, hd, hv⟩ := rec
    cases e2
    refine h hp.objs.size cn ((X.mg "__name__").getD .none) ctv _ _ (LamX.inv_table (t' := tk) (q := X.env.qual ++ "<lambda>") (more := #[rawInt pos.line, rawInt pos.col, .ref cn]) I hP (fun b o hb e => Heap.get?_push_of_some _ (ext b o hb e)) (Heap.get?_push_of_some _ tab) ge ⟨oc, vs, t, Heap.get?_push_of_some _ hoc, hd, hv⟩) (.inr ⟨ps, _, cn, hP, I.hok.fresh ge, rfl, ?_, ?_⟩) (Heap.get?_push_size _ rfl) ⟨cn, oc, vs, t, rfl, Heap.get?_push_of_some _ hoc, hd, hv⟩
    · have eL : (ps ++ #[rawInt pos.line, rawInt pos.col, Value.ref cn]).toList = ps.toList ++ [rawInt pos.line, rawInt pos.col, .ref cn] := by simp
      rw [eL]
      exact PySem.TriplesOk_snoc _ _ _ _ ht
    · intro p2 cv hcv
      have eL : (ps ++ #[rawInt pos.line, rawInt pos.col, Value.ref cn]).toList = ps.toList ++ [rawInt pos.line, rawInt pos.col, .ref cn] := by simp
      rw [eL] at hcv
      exact LamX.among_app _ ht hcv
  | some cv =>
    obtain ⟨cn, rfl, hco⟩ := ha pos cv hc
    apply kla_makeFunctionHit (mg := X.mg) (c := c) (P := P) (ps := ps) clo I.ok.glob (I.mod.glob.keeps I.bk) hcode (TB.code.keeps I.bk) atP ht hc (TB.bm.keeps I.bk)
    intro ctv hp tk ext ge
    have J : Inv X pins σ H { s with heap := hp.push (kla_obj "<lambda>" (X.env.qual ++ "<lambda>") params body scope [] ((X.mg "__name__").getD .none) cn ctv), toks := tk } := I.kept fun b o e => Heap.get?_push_of_some _ (ext b o e)
    obtain ⟨⟨oc, vs, t, e1, e2, e3⟩, _⟩ := J.hok cn _ hco
    exact h hp.objs.size cn _ ctv H _ J (.inl rfl) (Heap.get?_push_size _ rfl) ⟨cn, oc, vs, t, rfl, e1, e2, e3⟩
/-- the relation behind it -/
theorem Rl.made {K : Kx} {B : Bs} {F : Hp} {rho : List Addr} {om : Nat → Option Addr} {z : Z} {σ : L2.St} {H H1 : Hp} {P : Addr} {q : Str} (R : Rl K B F rho om z σ H) (hp : (P, q) ∈ K.tb.t) (m : Made P q H H1) : ∃ F1, Same F F1 ∧ Rl K B F1 rho om z σ H1 := by
  have m0 := m
  rcases m with rfl | ⟨ps, more, cn, hP, hc, rfl, ht, hcs⟩
  · exact ⟨F, Same.refl F, R⟩
  have fc : F cn = none := R.rh.fro.free hc
  have sf : Same F (upd F cn (LamX.CodeO cn q)) := fun b o e => by rw [upd_ne (ne_of_none e fc)]; exact e
  have nP : ∀ (n : Nat) (a : Addr), rho[n]? = some a → a ≠ P := fun n a e c => R.rh.tr _ hp n (by rw [← c]; exact e)
  have nO : ∀ (i : Nat) (a : Addr), om i = some a → a ≠ P := fun i a e c => R.to _ hp i (by rw [← c]; exact e)
  have kO : ∀ (i : Nat) (a : Addr), om i = some a → upd (upd H P (.tbl (ps ++ more))) cn (LamX.CodeO cn q) a = H a := fun i a e => by
    obtain ⟨u, hu, _⟩ := R.oth i a e
    rw [hu]
    exact m0.keep hu (nO i a e)
  have kR : ∀ (n : Nat) (a : Addr), rho[n]? = some a → upd (upd H P (.tbl (ps ++ more))) cn (LamX.CodeO cn q) a = H a := fun n a e => by
    obtain ⟨u, hu, _⟩ := R.rh.there e
    rw [hu]
    exact m0.keep hu (nP n a e)
  have fF : ∀ {a : Addr} {u : HO}, H a = some u → F a = none → upd F cn (LamX.CodeO cn q) a = none := fun e e2 => by rw [upd_ne (ne_of_none e hc)]; exact e2
  refine ⟨upd F cn (LamX.CodeO cn q), sf, ⟨⟨fun b o e => ?_, R.rh.len, fun n d a h1 h2 => (R.rh.obs n d a h1 h2).mono sf (List.prefix_refl _) (kR n a h2), R.rh.inj, fun n a e => ?_, ⟨fun p hq => ?_, R.rh.tb.un, fun p hq => ?_⟩, R.rh.tr⟩, R.len, fun i x e => (R.sl i x e).mono sf (List.prefix_refl _) (kO i) rfl, R.oj, R.orr, fun i a e => ?_, fun i a e => ?_,
    fun a o e n => ?_, R.exf.trans sf, R.exr, fun a o e nt e2 n => ?_, R.nr, R.no, R.ow, R.to, R.mt⟩⟩
  · by_cases c : b = cn
    · subst c
      rw [upd_same] at e
      rw [upd_same]
      exact e
    · rw [upd_ne c] at e
      exact m0.keep (R.rh.fro _ _ e) fun c2 => by rw [c2, R.rh.tb.nf _ hp] at e; cases e
  · obtain ⟨u, hu, _⟩ := R.rh.there e
    exact fF hu (R.rh.nf n a e)
  · obtain ⟨qs, h1, h2, h3⟩ := R.rh.tb.tb p hq
    by_cases c : p.1 = P
    · have eq : p.2 = q := R.rh.tb.un p hq _ hp c
      rw [c, hP] at h1
      cases h1
      refine ⟨ps ++ more, by rw [c, upd_ne (ne_of_none hP hc), upd_same], ht, fun pos cv hcv => ?_⟩
      rcases hcs pos cv hcv with h | h
      · obtain ⟨c0, e1, e2⟩ := h3 pos cv h
        exact ⟨c0, e1, sf _ _ e2⟩
      · exact ⟨cn, h, by rw [eq]; exact upd_same⟩
    · exact ⟨qs, m0.keep h1 c, h2, fun pos cv hcv => by
        obtain ⟨c0, e1, e2⟩ := h3 pos cv hcv
        exact ⟨c0, e1, sf _ _ e2⟩⟩
  · obtain ⟨qs, h1, _⟩ := R.rh.tb.tb p hq
    exact fF h1 (R.rh.tb.nf p hq)
  · obtain ⟨u, hu, _⟩ := R.oth i a e
    exact fF hu (R.off i a e)
  · rw [kO i a e]
    exact R.oth i a e
  · exact m0.keep (R.frm a o e n) fun c => n (by rw [c]; exact R.mt _ hp)
  · exact fF (R.frm a o e n) (R.nF a o e nt e2 n)
/-! ### the rule -/
def IntsV (ys : List V) : List Nat → List Int → Prop
  | [], [] => True
  | i :: iz, n :: ns => ys[i]? = some (.int n) ∧ IntsV ys iz ns
  | _, _ => False
theorem IntsV.raw {ys : List V} {its : List Value} (r : Vals ys its) : ∀ {iz : List Nat} {ns : List Int}, IntsV ys iz ns → ∃ vs, IntsAt its.toArray iz ns vs ∧ vs.length = iz.length
  | [], [], _ => ⟨[], trivial, rfl⟩
  | i :: iz, n :: ns, ⟨h1, h2⟩ => by
    obtain ⟨vs, h3, h4⟩ := IntsV.raw r h2
    obtain ⟨u, e, ru⟩ := r.get h1
    obtain ⟨tk, rfl⟩ := ru
    exact ⟨.int n tk :: vs, ⟨⟨tk, rfl, by simpa using e⟩, h3⟩, by rw [List.length_cons, List.length_cons, h4]⟩
theorem IntsV.of {K : Kx} {F : Hp} {rho : List Addr} {xs : List D} {ys : List V} (r : Rps K F rho xs ys) : ∀ {iz : List Nat} {ns : List Int}, iz.mapM (intAt xs) = some ns → IntsV ys iz ns
  | [], ns, h => by
    rw [List.mapM_nil] at h
    cases h
    trivial
  | i :: iz, ns, h => by
    rw [List.mapM_cons] at h
    obtain ⟨n, h1, h2⟩ := bI h
    obtain ⟨ms, h3, h4⟩ := bI h2
    cases h4
    refine ⟨?_, IntsV.of r h3⟩
    unfold intAt at h1
    split at h1
    · rename_i k hx
      cases h1
      obtain ⟨v, e1, e2⟩ := r.get hx
      cases e2
      exact e1
    · cases h1
def rSrtL (K : PySem.W.Frag) (iz : List Nat) (P : Addr) (q : Str) (Q : VK) (v : V) (H1 : Hp) : Prop := ∃ (a : Addr) (xs : List V) (ds : List D) (T : V → D → Prop) (ps : Array Value), v = .ref a ∧ SqL K H1 a xs ∧ ds.length ≤ szl ∧
  EachIs (fun x d => (∃ (b : Addr) (ys : List V) (ns : List Int), x = V.ref b ∧ SqT K H1 b ys ∧ keyI iz d = some ns ∧ IntsV ys iz ns) ∧ T x d) xs ds ∧ (ds.all fun d => (keyI iz d).isSome) = true ∧
  H1 P = some (.tbl ps) ∧ TriplesOk ps.toList ∧ (∀ (pos : Pos) (cv : Value), codeAmong pos ps.toList = some cv → ∃ c, cv = .ref c ∧ H1 c = some (LamX.CodeO c q)) ∧
  ∀ (H2 : Hp) (ys : List V) (p : Addr), Made P q H1 H2 → EachIs T ys (srt (ikey iz) ds) → H2 p = none → Q (.ref p) (upd H2 p (.lst ys))
def tSrtL (K : PySem.W.Frag) (iz : List Nat) (P : Addr) (q : Str) (te : TE) : TE := fun σ H Q => te σ H fun v H1 => rSrtL K iz P q Q v H1
theorem Made.sql {K : PySem.W.Frag} {P : Addr} {q : Str} {H H1 : Hp} (m : Made P q H H1) {ps : Array Value} (hP : H P = some (.tbl ps)) {a : Addr} {xs : List V} (h : SqL K H a xs) : SqL K H1 a xs := by
  rcases h with (h | ⟨o, h⟩) | h
  · exact .inl (.inl (m.keep h fun c => by rw [c, hP] at h; cases h))
  · exact .inl (.inr ⟨o, m.keep h fun c => by rw [c, hP] at h; cases h⟩)
  · exact .inr h
theorem Made.sqt {K : PySem.W.Frag} {P : Addr} {q : Str} {H H1 : Hp} (m : Made P q H H1) {ps : Array Value} (hP : H P = some (.tbl ps)) {a : Addr} {xs : List V} (h : SqT K H a xs) : SqT K H1 a xs := by
  rcases h with (h | ⟨o, h⟩) | h
  · exact .inl (.inl (m.keep h fun c => by rw [c, hP] at h; cases h))
  · exact .inl (.inr ⟨o, m.keep h fun c => by rw [c, hP] at h; cases h⟩)
  · exact .inr h
section
variable {X : Cx} {Tb : Tbs}
theorem pe_srtL {x : Str} {iz : List Nat} {params : Arguments} {scope : Scope} {es : List Expr} {kt : Nat} {pt pl pk p pos : Pos} {c P : Addr} {e : Expr} {te : TE} (L : Lam1 x params scope) (ke : KeyEs x es iz) (hz : iz ≠ []) (hzl : iz.length ≤ 100) (dp : X.A.depth < recursionLimit) (hu : X.A.units + 64 < cLine) (TB : LamX.TabB X.base X.mg c P) (hcode : X.env.code = .ref c)
    (hg : Gl X "sorted") (hm : X.mg "sorted" = none) (ha : PE X e te) (hv : bootBuiltins "sorted" = some (.builtin "sorted") := by decide +kernel)
    (he : starEach [e] X.env = (false, eval e X.env) :: starEach [] X.env := by rfl) (he2 : backTo pos (starEach [e] X.env) = (false, eval e X.env) :: backTo pos (starEach [] X.env) := by rfl) (hpl : (backTo pos (starEach [e] X.env)).any (·.1) = false := by rfl) :
    PE X (.Call (.Name "sorted" p) [e] [⟨some "key", .Lambda params (.Tuple es kt pt) scope pl, pk⟩] pos) (tSrtL X.K iz P (X.env.qual ++ "<lambda>") te) := by
  refine ⟨fun pins s σ H Q I h => ?_⟩
  refine wpAny_Call_Name_kw (ld_blt I hg hm hv ?_ (by decide) (by decide))
  refine PyProof.Rows.callWith_kw (thn ((pa_cons ha pa_nil he).run pos pins s σ H (fun vs H1 => match vs with | [v] => rSrtL X.K iz P (X.env.qual ++ "<lambda>") Q v H1 | _ => False) I ?_) fun us s1 ⟨vs, H1, I1, r1, q1⟩ => ?_) he2 hpl rfl rfl
  · exact h
  · obtain ⟨v, rfl⟩ : ∃ v, vs = [v] := by
      match vs, q1 with
      | [v], _ => exact ⟨v, rfl⟩
    obtain ⟨a, xs, ds, T, ps, rfl, hs, hl, ea, hk, hP, ht, hc, q⟩ := q1
    show wpAny _ _ (evalAll ((do let v ← eval (.Lambda params (.Tuple es kt pt) scope pl) X.env; standAt pos; pure v) :: (backToKw pos (keywordEach [] X.env)).map (·.2))) _ _ s1
    refine wpAny_evalAll_cons (wpAny_bind (lam_make3 I1 TB hcode hP ht hc (L.df _) L.noFree fun f cn pm ctv H2 s2 I2 md hf hrec => wpAny_bind (wpAny_standAt (wpAny_pure (wpAny_evalAll_nil ?_)))))
    rw [Vals.ref1 r1]
    obtain ⟨its, rv, hlI, hz1⟩ := I2.list (md.sql hP hs)
    have el : EachIs (fun (u : Value) (d : D) => ∃ x, RelV x u ∧ (∃ (b : Addr) (ys : List V) (ns : List Int), x = V.ref b ∧ SqT X.K H1 b ys ∧ keyI iz d = some ns ∧ IntsV ys iz ns) ∧ T x d) its ds := each_raw (fun x d u t r => ⟨x, r, t⟩) rv ea
    refine sorted_key_data (b := false) (k := ikey iz) hlI.isList el (ikey_alike iz ds) (ikey_sortable hz hk) (Nat.le_trans hl szl_line) (fun d hd => ?_) (ksk_s1 _ _) (fun _ => ksk_l1 _ _) (fun _ => ksk_t1 _ _) ?_ ?_
    · have := ikey_depth iz d; omega
    · rintro u d ⟨x2, rx, ⟨b, ys, ns, rfl, hT, hkd, hiv⟩, _⟩ hd hp tk kp
      cases rx
      obtain ⟨its2, rv2, ht2, hz2⟩ := I2.tuple (md.sqt hP hT)
      obtain ⟨vs, hi, hvl⟩ := IntsV.raw rv2 hiv
      have ek : ikey iz d = .tuple (ns.map .int) := by unfold ikey; rw [hkd]; rfl
      rw [ek]
      refine lam_key (s := { s2 with heap := hp, toks := tk }) L ke dp ((I2.nolimit).keeps kp) (kp _ _ hf) (hrec.keeps kp) (ht2.keeps kp) ?_ hi (by rw [hvl]; exact Nat.le_trans hzl (by decide))
      rw [List.size_toArray, ← rv2.length]
      exact hz2
    · intro out c2 hp tk kp _ hat hlen eo
      obtain ⟨ys, ry, ey⟩ := each_abs (eo.mono fun u d ⟨x, h1, _, h3⟩ => ⟨x, h1, h3⟩)
      have yl : ys.length ≤ sizeLine := by rw [ry.length, hlen]; exact Nat.le_trans hl szl_line
      exact ⟨.ref _, upd H2 (s2.heap.objs.size + 1) (.lst ys), I2.laid (t' := tk) kp (Nat.le_succ _) ⟨yl, out, c2, ry, hat⟩, rfl, q H2 ys _ md ey (I2.hok.fresh (Nat.le_succ _))⟩
theorem each_keyI {K : Kx} {F H : Hp} {rho : List Addr} {iz : List Nat} (e : Same F H) : ∀ {ds : List D} {xs : List V}, Rps K F rho ds xs → (ds.all fun d => (keyI iz d).isSome) = true → EachIs (fun x d => (∃ (b : Addr) (ys : List V) (ns : List Int), x = V.ref b ∧ SqT K H b ys ∧ keyI iz d = some ns ∧ IntsV ys iz ns) ∧ Rp K F rho d x) xs ds
  | [], _, .nil, _ => .nil
  | d :: ds, _, .cons r rs, h => by
    rw [List.all_cons, Bool.and_eq_true] at h
    refine .cons ⟨?_, r⟩ (each_keyI e rs h.2)
    cases hk : keyI iz d with
    | none => rw [hk] at h; cases h.1
    | some ns =>
      cases r with
      | tup hF rr => exact ⟨_, _, ns, rfl, .inl (.inl (e _ _ hF)), rfl, IntsV.of rr hk⟩
      | _ => cases hk
theorem mf_sortedK {x : Str} {iz : List Nat} {params : Arguments} {scope : Scope} {es : List Expr} {kt : Nat} {pt pl pk p pos : Pos} {c P : Addr} {e : Expr} {m : M D} (L : Lam1 x params scope) (ke : KeyEs x es iz) (hz : iz ≠ []) (hzl : iz.length ≤ 100) (hr : ∃ k, Room k X.A) (TB : LamX.TabB X.base X.mg c P) (hcode : X.env.code = .ref c) (hP : (P, X.env.qual ++ "<lambda>") ∈ Tb.t)
    (hg : Gl X "sorted") (hm : X.mg "sorted" = none) (ha : PE X e (Te (kx X Tb) m)) (hv : bootBuiltins "sorted" = some (.builtin "sorted") := by decide +kernel)
    (he : starEach [e] X.env = (false, eval e X.env) :: starEach [] X.env := by rfl) (he2 : backTo pos (starEach [e] X.env) = (false, eval e X.env) :: backTo pos (starEach [] X.env) := by rfl) (hpl : (backTo pos (starEach [e] X.env)).any (·.1) = false := by rfl) :
    PE X (.Call (.Name "sorted" p) [e] [⟨some "key", .Lambda params (.Tuple es kt pt) scope pl, pk⟩] pos) (Tf (kx X Tb) (N.sortedK iz m)) := by
  obtain ⟨kk, hr⟩ := hr
  refine pe_imp (pe_srtL L ke hz hzl hr.depth hr.units TB hcode hg hm ha hv he he2 hpl) fun σ H Q ⟨B, F, rho, om, z, g⟩ => ?_
  refine (g.bnd.imp fun _ _ H1 _ _ v _ _ _ _ _ ⟨F2, rho2, z2, x, eg1, s1, p1, r1, g1⟩ => ?_).tx (R := rV (kx X Tb))
  obtain ⟨R, d, z4, e, k⟩ := g1
  dsimp only at e
  split at e
  · rename_i ds hc
    split at e
    · rename_i c2
      cases e
      obtain ⟨a, xs, rfl, q, h⟩ := cont_ok R r1 hc
      obtain ⟨ps, h1, h2, h3⟩ := R.rh.tb.tb _ hP
      refine ⟨a, xs, ds, fun v d => Rp (kx X Tb) F2 rho2 d v, ps, rfl, ?_, c2.1, each_keyI R.rh.fro q c2.2, c2.2, h1, h2, fun pos cv hcv => ?_, fun H2 ys l md ey hl => ?_⟩
      · rcases h with ⟨_, h⟩ | ⟨h, _⟩
        · exact h
        · cases h
      · obtain ⟨c0, e1, e2⟩ := h3 pos cv hcv
        exact ⟨c0, e1, R.rh.fro _ _ e2⟩
      · obtain ⟨F3, s3, R3⟩ := R.made hP md
        obtain ⟨R4, f4⟩ := R3.new (o := .lst ys) hl
        exact k F3 rho2 _ _ s3 (List.prefix_refl _) R4 ⟨l, ys, rfl, upd_same, f4, (each_rps ey).mono s3 (List.prefix_refl _)⟩
    · cases e
  · cases e
end
/-! ### a def given by facts of the head, its code object told -/
theorem fnD_ok {P : Program} {w : World} {K : Kx} {mg : Str → Option Value} {base : Heap} {x qual : Str} {params : Arguments} {body : List Stmt} {scope : Scope} {dvs : List V} {kws : List (Str × V)} {f : Addr} {fd : FuncData} {N ps : List Str} {k n kk : Nat} {b : C} (F : FunD K x qual params body scope dvs kws f fd) (S : FnScope N ps scope) (hn : N.length = n) (hk : ps.length = kk)
    (hb : ∀ (A : Around) (outer : List Env) (s : Shared) (H : Hp) (E : XK), Room k (A.deeper (envOfC qual scope s.heap.objs.size f fd.code)) → PSs (cxOf CX0 P w K mg base N qual scope f fd.code A outer s H E).nox body (Ts K b)) :
    FnOk P w K mg base CX0 (k + 1) f fd ps (spM kk K (fn n kk b)) := by
  subst hn hk
  obtain ⟨oc, od, dV, kV, doc, pm, an, cdv, ct, osl, rfl, lk, hcd, _, _⟩ := F.ex
  exact fn_of lk hcd S (fun vs H Q E h => h.1) fun A outer s H vs Q E hr h => ⟨_, (hb A outer s H E hr).nox, fn_body S h⟩
theorem codeD {K : PySem.W.Frag} {x qual : Str} {params : Arguments} {body : List Stmt} {scope : Scope} {dvs : List V} {kws : List (Str × V)} {fd : FuncData} {p : Str × Option Str} (F : FunD K x qual params body scope dvs kws (He.fAd K p) fd) : fd.code = .ref (He.cT K p).1 := by
  obtain ⟨oc, od, dV, kV, doc, pm, an, cdv, ct, osl, rfl, lk, hcd, _, _⟩ := F.ex
  obtain ⟨c, hc⟩ := He.codeIn_ref hcd
  show cdv = _
  rw [hc]
  exact congrArg Value.ref (He.codeOf_eq lk hc).symm
end Mi

set_option Elab.async false
set_option linter.all false
set_option maxRecDepth 100000
/-! Mi, part I: instances as values, methods. -/
namespace Mi
open PySem PySem.W PySem.Spec PyProof.Rows L2
/-! ### data without names of the heap -/
mutual
def calm : D → Bool
  | .tup xs => calms xs
  | .kt xs => calms xs
  | .lst xs => calms xs
  | .non => true
  | .bl _ => true
  | .int _ => true
  | .str _ => true
  | _ => false
def calms : List D → Bool
  | [] => true
  | x :: xs => calm x && calms xs
end
section
variable {K : Kx} {F F' F0 : Hp} {rho t : List Addr}
mutual
theorem Rp.calm : ∀ {d : D} {v : V}, Mi.calm d = true → Rp K F (rho ++ t) d v → Rp K F rho d v
  | _, _, _, .non => .non
  | _, _, _, .bl b => .bl b
  | _, _, _, .int i => .int i
  | _, _, _, .str x => .str x
  | _, _, h, .tup e r => .tup e (Rps.calm (by rw [Mi.calm] at h; exact h) r)
  | _, _, h, .kt e r => .kt e (Rps.calm (by rw [Mi.calm] at h; exact h) r)
  | _, _, h, .lst e r => .lst e (Rps.calm (by rw [Mi.calm] at h; exact h) r)
  | _, _, h, .scr e r => by rw [Mi.calm] at h <;> first | cases h | (intros; contradiction)
  | _, _, h, .ref e => by rw [Mi.calm] at h <;> first | cases h | (intros; contradiction)
  | _, _, h, .dk e k r => by rw [Mi.calm] at h <;> first | cases h | (intros; contradiction)
  | _, _, h, .dt e k r => by rw [Mi.calm] at h <;> first | cases h | (intros; contradiction)
  | _, _, h, .ins m e k r => by rw [Mi.calm] at h <;> first | cases h | (intros; contradiction)
theorem Rps.calm : ∀ {ds : List D} {vs : List V}, Mi.calms ds = true → Rps K F (rho ++ t) ds vs → Rps K F rho ds vs
  | _, _, _, .nil => .nil
  | _, _, h, .cons r rs => by
    rw [Mi.calms, Bool.and_eq_true] at h
    exact .cons (Rp.calm h.1 r) (Rps.calm h.2 rs)
end
/-- what was told over a shorter heap, is -/
theorem get_short {n : Nat} {a0 : Addr} {α : Prop} {a : Addr} (h0 : rho[n]? = some a0) (h : (rho ++ t)[n]? = some a) : rho[n]? = some a := by
  rw [← h, List.getElem?_append_left (List.getElem?_eq_some_iff.mp h0).1]
mutual
theorem Rp.short : ∀ {d : D} {v0 v : V}, Rp K F0 rho d v0 → Rp K F (rho ++ t) d v → Rp K F rho d v
  | _, _, _, .non, .non => .non
  | _, _, _, .bl _, .bl b => .bl b
  | _, _, _, .int _, .int i => .int i
  | _, _, _, .str _, .str x => .str x
  | _, _, _, .tup _ r0, .tup e r => .tup e (Rps.short r0 r)
  | _, _, _, .kt _ r0, .kt e r => .kt e (Rps.short r0 r)
  | _, _, _, .lst _ r0, .lst e r => .lst e (Rps.short r0 r)
  | _, _, _, .scr _ r0, .scr e r => .scr e (Rps.short r0 r)
  | _, _, _, .ref e0, .ref e => .ref (by rw [← e, List.getElem?_append_left (List.getElem?_eq_some_iff.mp e0).1])
  | _, _, _, .dk _ _ r0, .dk e k r => .dk e k (Rps.short r0 r)
  | _, _, _, .dt _ _ r0, .dt e k r => .dt e k (Rps.short r0 r)
  | _, _, _, .ins _ _ _ r0, .ins m e k r => .ins m e k (Rps.short r0 r)
theorem Rps.short : ∀ {ds : List D} {vs0 vs : List V}, Rps K F0 rho ds vs0 → Rps K F (rho ++ t) ds vs → Rps K F rho ds vs
  | _, _, _, .nil, .nil => .nil
  | _, _, _, .cons r0 rs0, .cons r rs => .cons (Rp.short r0 r) (Rps.short rs0 rs)
end
theorem Ob.short {H0 H : Hp} {a0 a : Addr} {d : D} (h0 : Ob K F0 rho H0 a0 d) (h : Ob K F (rho ++ t) H a d) : Ob K F rho H a d := by
  cases d <;> try exact h.elim
  · obtain ⟨xs, e, r⟩ := h
    obtain ⟨_, _, r0⟩ := h0
    exact ⟨xs, e, r0.short r⟩
  · obtain ⟨xs, e, k, r⟩ := h
    obtain ⟨_, _, _, r0⟩ := h0
    exact ⟨xs, e, k, r0.short r⟩
  · obtain ⟨xs, e, k, r⟩ := h
    obtain ⟨_, _, _, r0⟩ := h0
    exact ⟨xs, e, k, r0.short r⟩
  · obtain ⟨C, dx, es, m, e, k, r⟩ := h
    obtain ⟨_, _, _, _, _, _, r0⟩ := h0
    exact ⟨C, dx, es, m, e, k, r0.short r⟩
end
section
variable {K : Kx} {B : Bs} {F F' F0 : Hp} {rho : List Addr} {om : Nat → Option Addr} {z : Z} {s : List Sl} {h : List D} {σ σ0 : L2.St} {H H0 : Hp} {p : Addr} {d : D} {o : HO}
/-- the last object of the shared heap stays as it is for ever -/
theorem Rl.settle (R0 : Rl K B F0 rho om ⟨s, h⟩ σ0 H0) (R : Rl K B F (rho ++ [p]) om ⟨s, h ++ [d]⟩ σ H) (hp : H p = some o) : Same F (upd F p o) ∧ Rl K B (upd F p o) rho om ⟨s, h⟩ σ H := by
  have last : (rho ++ [p])[rho.length]? = some p := by rw [List.getElem?_append_right (Nat.le_refl _), Nat.sub_self]; rfl
  have up : ∀ {n : Nat} {a : Addr}, rho[n]? = some a → (rho ++ [p])[n]? = some a := fun {n a} e => by rw [List.getElem?_append_left (List.getElem?_eq_some_iff.mp e).1]; exact e
  have fp : F p = none := R.rh.nf _ _ last
  have sf : Same F (upd F p o) := fun b u e => by rw [upd_ne (ne_of_none e fp)]; exact e
  have ne : ∀ {n : Nat} {a : Addr}, rho[n]? = some a → a ≠ p := fun {n a} e c => by
    have h1 := R.rh.inj _ _ _ (up e) (show (rho ++ [p])[rho.length]? = some a by rw [c]; exact last)
    have h2 := (List.getElem?_eq_some_iff.mp e).1
    omega
  have no : ∀ {i : Nat} {a : Addr}, om i = some a → a ≠ p := fun {i a} e c => R.orr i rho.length a e (by rw [c]; exact last)
  have hlen : h.length = rho.length := R0.rh.len
  refine ⟨sf, ⟨⟨fun b u e => ?_, hlen, fun n d2 a h1 h2 => ?_, fun i j a h1 h2 => R.rh.inj i j a (up h1) (up h2), fun n a e => by rw [upd_ne (ne e)]; exact R.rh.nf n a (up e), R.rh.tb.mono sf (fun _ _ => rfl) (fun q hq => by rw [upd_ne fun c => R.rh.tr q hq rho.length (by rw [c]; exact last)]; exact R.rh.tb.nf q hq), fun q hq n e => R.rh.tr q hq n (up e)⟩, R.len, fun i x e => ?_, R.oj, fun i n a e e2 => R.orr i n a e (up e2), fun i a e => by rw [upd_ne (no e)]; exact R.off i a e, R.oth, R.frm, R.exf.trans sf, R0.exr, fun a u e1 nt e2 nm => ?_, fun n a e => R.nr n a (up e), R.no, fun i a e => ?_, R.to, R.mt⟩⟩
  · by_cases c : b = p
    · subst c
      rw [upd_same] at e
      rw [hp]
      exact e
    · rw [upd_ne c] at e
      exact R.rh.fro _ _ e
  · have hl : n < h.length := (List.getElem?_eq_some_iff.mp h1).1
    exact (Ob.short (t := [p]) (R0.rh.obs n d2 a h1 h2) (R.rh.obs n d2 a (by rw [List.getElem?_append_left hl]; exact h1) (up h2))).mono sf (List.prefix_refl _) rfl
  · have q0 := R0.sl i x e
    have q := R.sl i x e
    cases x with
    | no => trivial
    | val d2 =>
      obtain ⟨v0, _, r0⟩ := q0
      obtain ⟨v, e1, r⟩ := q
      exact ⟨v, e1, (r0.short r).mono sf (List.prefix_refl _)⟩
    | own d2 =>
      obtain ⟨a0, _, _, r0⟩ := q0
      obtain ⟨a, e1, e2, r⟩ := q
      exact ⟨a, e1, e2, (Ob.short r0 r).mono sf (List.prefix_refl _) rfl⟩
  · have c : a ≠ p := fun c => by
      subst c
      rcases R.nr _ _ last with h | h
      · exact nm h
      · rw [h] at e1
        cases e1
    rw [upd_ne c]
    exact R.nF a u e1 nt e2 nm
  · exact R.ow i a e
end
/-! ### an instance made, as a value -/
open Classical in
noncomputable def mkV (h : List D) : Option (D × List D) → Option D
  | some (.non, h') => match h'[h.length]? with
    | some (.ins nm fs) => if h' = h ++ [.ins nm fs] ∧ calms (fs.map Prod.snd) = true then some (.ins nm fs) else none
    | _ => none
  | _ => none
noncomputable def E.mk (nm : Str) (mf : Fn) (g : List D → List D) (ms : List (M D)) : M D := bnd (E.args ms) fun xs z => match mkV z.h (mf (.ref z.h.length :: g xs) (z.h ++ [.ins nm []])) with
  | some d => some (d, z)
  | none => none
theorem mkV_ok {h : List D} {r : Option (D × List D)} {d : D} (e : mkV h r = some d) : ∃ nm fs, d = .ins nm fs ∧ r = some (.non, h ++ [.ins nm fs]) ∧ calms (fs.map Prod.snd) = true := by
  unfold mkV at e
  split at e
  · rename_i h'
    split at e
    · rename_i nm fs hf
      split at e
      · rename_i c
        cases e
        exact ⟨nm, fs, rfl, by rw [c.1], c.2⟩
      · cases e
    · cases e
  · cases e
theorem mk_go {K : Kx} {nm : Str} {C : Addr} {n m : Nat} {mf : Fn} {g : List D → List D} {gV : List V → List V} {ms : List (M D)} {Ee : XK} {gW : List V → List V → List V} (hC : (nm, C) ∈ K.tb.c) (hm : ms.length = m) (al : Alike K m n g gV) (hW : ∀ a zs, zs.length = m → gW [a] zs = a :: gV zs) : ∀ σ H Q, Te K (E.mk nm mf g ms) σ H Q →
    tMakeK C 0 m (spM (n + 1) K mf) gW Ee tNil (Ta K (E.args ms)) σ H Q := by
  rintro σ H Q ⟨B, F, rho, om, z, gg⟩
  refine (gg.bnd.imp fun _ _ H1 _ _ zs _ _ _ _ _ ⟨F2, rho2, z2, xs, eg1, s1, p1, r1, g1⟩ => ?_).tx (R := rA K)
  obtain ⟨R, d, z4, e, k⟩ := g1
  have hx := args_len eg1
  refine ⟨rfl, by rw [← r1.length, hx, hm], fun x dx hnx hdx hne => ?_⟩
  rw [hW _ _ (by rw [← r1.length, hx, hm])]
  dsimp only at e
  split at e
  · rename_i d' hd
    cases e
    obtain ⟨nm2, fs, rfl, hr, hcm⟩ := mkV_ok hd
    have R1 := R.new (o := .own x) hdx
    have hx2 : (upd H1 dx (.own x)) x = none := by rw [upd_ne (show x ≠ dx from fun c => hne c.symm)]; exact hnx
    have R2 := R1.1.new (o := .ins C dx []) hx2
    have R3 := R2.1.share R2.2 (d := .ins nm []) ⟨C, dx, [], hC, upd_same, rfl, .nil⟩
    obtain ⟨a1, a2⟩ := al (by rw [hx, hm]) (r1.mono (Same.refl _) (List.prefix_append rho2 [x]))
    refine ⟨by rw [List.length_cons, a2], F2, rho2 ++ [x], z2.h ++ [.ins nm []], .ref z2.h.length :: g xs, R3.1.rh, .cons (.ref R3.2) a1, .non, _, hr, fun F' rho' H' v e1 e2 r fr nf nr q => ?_⟩
    have hv : v = .non := by cases q; rfl
    refine ⟨hv, ?_⟩
    have R4 := R3.1.called e1 e2 r fr nf nr
    have er : rho' = rho2 ++ [x] := by
      obtain ⟨tl, ht⟩ := e2
      have hl := r.len
      rw [← ht, List.length_append, List.length_append, List.length_append, ← R.rh.len] at hl
      cases tl with
      | nil => rw [← ht, List.append_nil]
      | cons b tl => simp at hl
    subst er
    have last : (rho2 ++ [x])[rho2.length]? = some x := by rw [List.getElem?_append_right (Nat.le_refl _), Nat.sub_self]; rfl
    obtain ⟨C2, dx2, es, hC2, hH, hk, hvs⟩ := r.obs rho2.length (.ins nm2 fs) x (by rw [← R.rh.len, List.getElem?_append_right (Nat.le_refl _), Nat.sub_self]; rfl) last
    obtain ⟨sf, R5⟩ := Rl.settle (s := z2.s) (h := z2.h) R R4 hH
    exact k (upd F' x _) rho2 H' (.ref x) (e1.trans sf) (List.prefix_refl _) R5 (.pure (.ins hC2 upd_same hk ((Rps.calm hcm hvs).mono sf (List.prefix_refl _))))
  · cases e
theorem me_mk {X : Cx} {Tb : Tbs} {k n m : Nat} {f C : Addr} {fd : FuncData} {ps ks : List Str} {x : Str} {p pos : Pos} {kws : List Keyword} {gL : List Value → List Value → List Value} {gW : List V → List V → List V} {mf : Fn} {g : List D → List D} {gV : List V → List V} {ms : List (M D)} (hC : (x, C) ∈ Tb.c) (Mm : Mk X.K C f)
    (G : FnOk X.prog X.w X.K X.mg X.base CX0 k f fd ps (spM (n + 1) (kx X Tb) mf)) (hr : Room (k + 1) X.A) (hg : Gl X x) (hm : X.mg x = some (.ref C)) (hb : KBn X.K fd ps 1 ks gL gW) (hW : ∀ a zs, zs.length = m → gW [a] zs = a :: gV zs) (al : Alike (kx X Tb) m n g gV) (hms : ms.length = m) (hkl : ks.length = m) (hkw : PK X kws (Ta (kx X Tb) (E.args ms)))
    (hall : (backToKw pos (keywordEach kws X.env)).all (·.1.isSome) = true := by rfl) (hks : (backToKw pos (keywordEach kws X.env)).filterMap (·.1) = ks := by rfl) (hdb : (x == ("__debug__" : Str)) = false := by decide)
    (hpl : ((backTo pos (starEach [] X.env)).any (·.1) || (backToKw pos (keywordEach kws X.env)).any (·.1.isNone)) = false := by rfl) : PE X (.Call (.Name x p) [] kws pos) (Te (kx X Tb) (E.mk x mf g ms)) := by
  subst hkl
  exact pe_imp (pe_makeK0 (E := E0) Mm G hr hg hm hb pass0 hkw hall hks hdb hpl) fun σ H Q h => mk_go (Ee := E0) hC hms al hW σ H Q h
/-! ### methods -/
def insOf (x : D) (z : Z) : Option (Str × List (Str × D)) := match x with
  | .ref n => match z.h[n]? with
    | some (.ins nm fs) => some (nm, fs)
    | _ => none
  | .ins nm fs => some (nm, fs)
  | _ => none
def E.meth (nm m : Str) (mf : Fn) (o : M D) (as : List (M D)) : M D := bnd o fun x z => match insOf x z with
  | some (nm2, fs) => if nm2 = nm ∧ (fs.lookup m).isNone = true then bnd (E.args as) (fun xs z => match mf (x :: xs) z.h with
      | none => none
      | some (d, h') => some (d, ⟨z.s, h'⟩)) z else none
  | none => none
theorem lookup_none {K : Kx} {F : Hp} {rho : List Addr} {f : Str} : ∀ {fs : List (Str × D)} {es : List (Str × V)}, es.map Prod.fst = fs.map Prod.fst → fs.lookup f = none → es.lookup f = none
  | [], es, hk, _ => by
    cases es with
    | nil => rfl
    | cons _ _ => cases hk
  | (k, x) :: fs, es, hk, h => by
    cases es with
    | nil => cases hk
    | cons e es =>
      obtain ⟨k2, v⟩ := e
      rw [List.map_cons, List.map_cons, List.cons.injEq] at hk
      obtain ⟨hk1, hk2⟩ := hk
      have hk1 : k2 = k := hk1
      subst hk1
      rw [List.lookup_cons] at h ⊢
      cases c : (f == k2) with
      | true => rw [c] at h; cases h
      | false => rw [c] at h; exact lookup_none (K := K) (F := F) (rho := rho) hk2 h
theorem insOf_ok {K : Kx} {B : Bs} {F : Hp} {rho : List Addr} {om : Nat → Option Addr} {z : Z} {σ : L2.St} {H : Hp} {x : D} {v : V} {nm : Str} {fs : List (Str × D)} {m : Str} (R : Rl K B F rho om z σ H) (r : Rv K F rho om x v) (e : insOf x z = some (nm, fs)) (hm : (fs.lookup m).isNone = true) :
    Rp K F rho x v ∧ ∃ a C dx es, v = .ref a ∧ (nm, C) ∈ K.tb.c ∧ H a = some (.ins C dx es) ∧ es.lookup m = none := by
  have hm2 : fs.lookup m = none := Option.isNone_iff_eq_none.mp hm
  unfold insOf at e
  split at e
  · rename_i n
    split at e
    · rename_i nm2 fs2 hz
      cases e
      cases r with
      | pure r =>
        have r0 := r
        cases r with
        | ref hr =>
          obtain ⟨C, dx, es, h1, h2, h3, h4⟩ := R.rh.obs _ _ _ hz hr
          exact ⟨r0, _, C, dx, es, rfl, h1, h2, lookup_none (K := K) (F := F) (rho := rho) h3 hm2⟩
    · cases e
  · rename_i nm2 fs2
    cases e
    cases r with
    | pure r =>
      have r0 := r
      cases r with
      | ins h1 h2 h3 h4 => exact ⟨r0, _, _, _, _, rfl, h1, R.rh.fro _ _ h2, lookup_none (K := K) (F := F) (rho := rho) h3 hm2⟩
  · cases e
theorem meth_go {K : Kx} {nm m : Str} {C : Addr} {n : Nat} {mf : Fn} {mo : M D} {ms : List (M D)} {Ee : XK} (hC : ∀ q ∈ K.tb.c, q.1 = nm → q.2 = C) (hn : ms.length = n) : ∀ σ H Q, Te K (E.meth nm m mf mo ms) σ H Q → tMeth C m (spM (n + 1) K mf) [] Ee (Te K mo) (Ta K (E.args ms)) σ H Q := by
  rintro σ H Q ⟨B, F, rho, om, z, g⟩
  refine (g.bnd.imp fun _ _ H1 _ _ v _ _ _ _ _ ⟨F2, rho2, z2, x, eg1, s1, p1, r1, g1⟩ => ?_).tx (R := rV K)
  obtain ⟨R, d, z4, e, k⟩ := g1
  dsimp only at e
  split at e
  · rename_i nm2 fs hi
    split at e
    · rename_i c
      obtain ⟨c1, c2⟩ := c
      subst c1
      obtain ⟨rx, a, C2, dx, es, rfl, h1, h2, h3⟩ := insOf_ok R r1 hi c2
      have h4 : C2 = C := hC _ h1 rfl
      subst h4
      refine ⟨a, dx, es, rfl, h2, h3, ?_⟩
      have g2 : Go K (rV K) B F2 rho2 om (bnd (E.args ms) (fun xs z => match mf (x :: xs) z.h with
        | none => none
        | some (d, h') => some (d, ⟨z.s, h'⟩))) z2 σ H1 Q := ⟨R, d, z4, e, k⟩
      refine (g2.bnd.imp fun _ _ H3 _ _ vs _ _ _ _ _ ⟨F4, rho4, z5, xs, eg2, s2, p2, r2, g3⟩ => ?_).tx (R := rA K)
      obtain ⟨R3, d3, z6, e3, k3⟩ := g3
      dsimp only at e3
      split at e3
      · cases e3
      · rename_i d' h' hd
        cases e3
        rw [List.append_nil]
        have hx := args_len eg2
        refine ⟨by rw [List.length_cons, ← r2.length, hx, hn], F4, rho4, z5.h, x :: xs, R3.rh, .cons (rx.mono s2 p2) r2, _, _, hd, fun F' rho' H' v e1 e2 r fr nf nr q => ?_⟩
        exact k3 F' rho' H' v e1 e2 (R3.called e1 e2 r fr nf nr) (.pure q)
    · cases e
  · cases e
theorem me_meth {X : Cx} {Tb : Tbs} {k n : Nat} {f C : Addr} {fd : FuncData} {ps : List Str} {nm m : Str} {apos pos : Pos} {o e : Expr} {es : List Expr} {mf : Fn} {mo : M D} {ms : List (M D)} {pl : Sem Bool} (hC : ∀ q ∈ Tb.c, q.1 = nm → q.2 = C) (c : Cls X.K C) (hm : Meth X.K C m f)
    (G : FnOk X.prog X.w X.K X.mg X.base CX0 k f fd ps (spM (n + 1) (kx X Tb) mf)) (hr : Room k X.A) (hb : Binds X.K fd ps []) (ho : PE X o (Te (kx X Tb) mo)) (ha : PA X (e :: es) (Ta (kx X Tb) (E.args ms))) (hn : ms.length = n := by rfl)
    (hst : starEach (e :: es) X.env = (false, eval e X.env) :: starEach es X.env := by rfl) (hpl : (backTo pos (starEach es X.env)).any (·.1) = false := by rfl)
    (ht : eval (.Call (.Attribute o m apos) (e :: es) [] pos) X.env = (do
      let ov ← eval o X.env
      standAt apos.atName
      let (f, first) ← holding [ov] (getMethod ov m pl)
      callWith pos f first (backTo pos (starEach (e :: es) X.env)) (backToKw pos (keywordEach [] X.env))) := by rfl) :
    PE X (.Call (.Attribute o m apos) (e :: es) [] pos) (Te (kx X Tb) (E.meth nm m mf mo ms)) :=
  pe_imp (pe_meth (E := E0) ho c hm G hr hb .nil pass0 ha hst hpl ht) (meth_go hC hn)
/-- o.f of an instance of the class nm -/
def O.fldC (nm f : Str) (x : D) (z : Z) : Option D := match insOf x z with
  | some (nm2, fs) => if nm2 = nm then fs.lookup f else none
  | none => none
@[reducible] def E.fldC (nm f : Str) (m : M D) : M D := E.un (O.fldC nm f) m
def C.fsetC (nm f : Str) (o v : M D) : C := bnd v fun d => bnd o fun x z => if isPure d = true then match x with
    | .ref n => match z.h[n]? with
      | some (.ins nm2 fs) => if nm2 = nm ∧ fs.length < 1000 then some (.nx, ⟨z.s, z.h.set n (.ins nm2 (putFD f d fs))⟩) else none
      | _ => none
    | _ => none
  else none
theorem me_fldC {X : Cx} {Tb : Tbs} {nm f : Str} {C : Addr} {e : Expr} {m : M D} {pos : Pos} (hC : ∀ q ∈ Tb.c, q.1 = nm → q.2 = C) (hc : Cls X.K C) (hn : NoAttr X.K C f) (he : PE X e (Te (kx X Tb) m)) (hb : attributeBase e f X.env (eval e X.env) = eval e X.env := by rfl) : PE X (.Attribute e f pos) (Te (kx X Tb) (E.fldC nm f m)) := by
  refine pe_imp (pe_fld he hb) (un_go (r := fun x H Q => ∃ a C dx fs v, x = V.ref a ∧ H a = some (.ins C dx fs) ∧ Cls X.K C ∧ NoAttr X.K C f ∧ fs.lookup f = some v ∧ Q v H) ?_)
  intro B F rho om z σ H x xv d R rx e Q k
  unfold O.fldC at e
  split at e
  · rename_i nm2 fs hi
    split at e
    · rename_i c
      subst c
      unfold insOf at hi
      split at hi
      · rename_i n
        split at hi
        · rename_i nm3 fs3 hz
          cases hi
          cases rx with
          | pure rx =>
            cases rx with
            | ref hr =>
              obtain ⟨C2, dx, es, hm, hH, hk, hv⟩ := R.rh.obs _ _ _ hz hr
              obtain ⟨v, h1, h2⟩ := rps_lookup hk hv e
              have h4 : C2 = C := hC _ hm rfl
              subst h4
              exact ⟨_, C2, dx, es, v, rfl, hH, hc, hn, h1, k F H v (Same.refl F) R (.pure h2)⟩
        · cases hi
      · rename_i nm3 fs3
        cases hi
        cases rx with
        | pure rx =>
          cases rx with
          | ins hm hF hk hv =>
            obtain ⟨v, h1, h2⟩ := rps_lookup hk hv e
            have h4 := hC _ hm rfl
            subst h4
            exact ⟨_, _, _, _, v, rfl, R.rh.fro _ _ hF, hc, hn, h1, k F H v (Same.refl F) R (.pure h2)⟩
      · cases hi
    · cases e
  · cases e
theorem ms_fsetC {X : Cx} {Tb : Tbs} {nm f : Str} {Ca : Addr} {o e : Expr} {mo mv : M D} {pos pos' : Pos} (hC : ∀ q ∈ Tb.c, q.1 = nm → q.2 = Ca) (hc : Cls X.K Ca) (hn : NoAttr X.K Ca f) (ho : PE X o (Te (kx X Tb) mo)) (hv : PE X e (Te (kx X Tb) mv)) (hs : swapsWith e (some (.Attribute o f pos')) pos.line X.env = pure false := by rfl) : PS X (.Assign [.Attribute o f pos'] e pos) (Ts (kx X Tb) (C.fsetC nm f mo mv)) := by
  refine ps_imp (ps_fld ho hv hs) fun D σ H ⟨B, F, rho, om, z, R, fl, z', e, k⟩ => ?_
  obtain ⟨d, z1, e1, e2⟩ := bnd_some e
  refine ⟨B, F, rho, om, z, R, d, z1, e1, fun F1 rho1 H1 v s1 p1 R1 r1 => ?_⟩
  obtain ⟨x, z2, e3, e4⟩ := bnd_some e2
  refine ⟨B, F1, rho1, om, z1, R1, x, z2, e3, fun F2 rho2 H2 w s2 p2 R2 r2 => ?_⟩
  split at e4
  · rename_i hp
    split at e4
    · rename_i n
      split at e4
      · rename_i nm2 fs hz
        split at e4
        · rename_i hl
          obtain ⟨hnm, hl⟩ := hl
          subst hnm
          cases e4
          cases r2 with
          | pure r2 =>
            cases r2 with
            | ref hr =>
              obtain ⟨C2, dx, es, hm, hH, hk, hvs⟩ := R2.rh.obs _ _ _ hz hr
              have h4 : C2 = Ca := hC _ hm rfl
              subst h4
              have rp := (r1.of_pure hp).mono s2 p2
              have q := rps_putF (f := f) rp hk hvs
              have hle : es.length < 1000 := by
                have := congrArg List.length hk
                rw [List.length_map, List.length_map] at this
                omega
              have R3 := R2.mutRef hr (o := .ins C2 dx (putF f v es)) (d := .ins nm2 (putFD f d fs)) ⟨C2, dx, _, hm, upd_same, q.1, q.2⟩
              exact ⟨_, C2, dx, es, rfl, hH, hc, hn, hle, k F2 rho2 _ _ _ (s1.trans s2) (p1.trans p2) R3⟩
        · cases e4
      · cases e4
    · cases e4
  · cases e4
theorem Tx.mono {K : Kx} {α β : Type} {R : RelT α β} {m : M α} {σ : L2.St} {H : Hp} {Q Q' : β → Hp → Prop} (h : Tx K R m σ H Q) (i : ∀ y H, Q y H → Q' y H) : Tx K R m σ H Q' := by
  obtain ⟨B, F, rho, om, z, g⟩ := h
  exact ⟨B, F, rho, om, z, g.imp fun _ _ H x _ y _ _ _ _ _ q => i y H q⟩
theorem ta_nil {K : Kx} {σ : L2.St} {H : Hp} {Q : List V → Hp → Prop} (h : Ta K (E.args []) σ H Q) : Q [] H := by
  obtain ⟨B, F, rho, om, z, g⟩ := h
  exact g.ret [] .nil
theorem me_meth0 {X : Cx} {Tb : Tbs} {k : Nat} {f C : Addr} {fd : FuncData} {ps : List Str} {nm m : Str} {apos pos : Pos} {o : Expr} {mf : Fn} {mo : M D} {pl : Sem Bool} (hC : ∀ q ∈ Tb.c, q.1 = nm → q.2 = C) (c : Cls X.K C) (hm : Meth X.K C m f)
    (G : FnOk X.prog X.w X.K X.mg X.base CX0 k f fd ps (spM 1 (kx X Tb) mf)) (hr : Room k X.A) (hb : Binds X.K fd ps []) (ho : PE X o (Te (kx X Tb) mo))
    (ht : eval (.Call (.Attribute o m apos) [] [] pos) X.env = (do
      let ov ← eval o X.env
      standAt apos.atName
      let (f, first) ← holding [ov] (getMethod ov m pl)
      callWith pos f first (backTo pos (starEach [] X.env)) (backToKw pos (keywordEach [] X.env))) := by rfl) :
    PE X (.Call (.Attribute o m apos) [] [] pos) (Te (kx X Tb) (E.meth nm m mf mo [])) := by
  refine pe_imp (pe_meth0 (E := E0) ho c hm G hr hb .nil pass0 ht) fun σ H Q h => ?_
  exact (meth_go (Ee := E0) (n := 0) hC rfl σ H Q h).mono fun v H1 ⟨a, dx, fs, h1, h2, h3, h4⟩ => ⟨a, dx, fs, h1, h2, h3, ta_nil h4⟩
/-- a call without arguments -/
theorem me_call0 {X : Cx} {Tb : Tbs} {k : Nat} {f : Addr} {fd : FuncData} {ps : List Str} {mf : Fn} {x : Str} {p pos : Pos} (G : FnOk X.prog X.w X.K X.mg X.base CX0 k f fd ps (spM 0 (kx X Tb) mf)) (hr : Room k X.A) (hg : Gl X x) (hm : X.mg x = some (.ref f))
    (hk : PySem.W.keepIn X.K (.ref f) = true) (hb : Binds X.K fd ps []) (hdb : (x == ("__debug__" : Str)) = false := by decide) : PE X (.Call (.Name x p) [] [] pos) (Te (kx X Tb) (E.call mf [])) :=
  pe_imp (pe_call0 (E := E0) G hr hg hm hk hb .nil pass0 hdb) fun σ H Q h => ta_nil (call_go (XE := E0) (n := 0) (es := []) rfl σ H Q h)
/-! ### the end of a row, by facts of the head -/
theorem walkX {l : PySem.W.OpenLaw} {k : Nat} {q : Program} {loose : List Str} {XP : (Str → Option Value) → Heap → Prop} {YP : World → Heap → Prop} {d : DefRec} {x : Str} {mf : Fn} (most : l.most = some 63) (nodef : d.params.defaults = []) (room : Room k callerA)
    (F : ∀ (w : World) (mg : Str → Option Value) (fa : Addr) (hp : Heap), YP w hp → hp.Ns mainGlobals mg → mg d.name = some (.ref fa) →
      ∃ (K : PySem.W.Frag) (fd : FuncData) (cs : List Cs) (cl : List (Str × Addr)), K.In hp ∧ CsOk K hp cs ∧ (∀ (sh : Shared) (u : Value), BindsTo sh fd ⟨[u], []⟩ [(x, u)]) ∧ ∀ base : Heap, K.In base → base.Ns mainGlobals mg → (∀ z ∈ cs, LamX.TabB base mg z.c z.p) → GOk l.prog w K mg base k fa fd [x] (spM 1 ⟨K, ⟨tbs cs, cl⟩⟩ mf))
    (law : ∀ ns : List Int, ns.length ≤ 63 → ∃ h', mf [.scr (ns.map D.int)] [] = some (.bl true, h')) : PySem.W.WalkO q loose XP YP l.row.toRowW d [] (fun f vs => PySem.call f vs) := by
  apply Att.attach_call most nodef
  intro w s0 s1 mg mb fa o pm cd doc a us ns G Y ho hd hcd hmg scr iar short gens
  obtain ⟨K, fd, cs, cl, kin, ck, hb, hF⟩ := F w mg fa _ Y G.T.g hmg
  refine row_call kin G.T.g G.T.b G.T.builtins G.T.nolimit gens ck G.T.bmain scr iar (Nat.le_trans short (by decide)) room hF hb fun Hh hT sq => ?_
  obtain ⟨h2, e⟩ := law ns short
  have rh : Rh ⟨K, ⟨tbs cs, cl⟩⟩ (fun b => if ∃ z ∈ cs, z.p = b then none else Hh b) [] [] Hh := by
    classical
    refine ⟨fun b o e => ?_, rfl, (fun _ _ _ h => by simp at h), (fun _ _ _ h => by simp at h), (fun _ _ h => by simp at h), ⟨fun p hp => ?_, fun p hp y hy c => ?_, fun p hp => ?_⟩, fun _ _ _ h => by simp at h⟩
    · split at e
      · cases e
      · exact e
    · obtain ⟨z, hz, rfl⟩ := List.mem_map.mp hp
      refine ⟨#[], hT z hz, True.intro, fun pos cv hc => ?_⟩
      have hc : codeAmong pos [] = some cv := hc
      simp [codeAmong] at hc
    · obtain ⟨z, hz, rfl⟩ := List.mem_map.mp hp
      obtain ⟨z2, hz2, rfl⟩ := List.mem_map.mp hy
      exact ck.one z hz z2 hz2 c
    · obtain ⟨z, hz, rfl⟩ := List.mem_map.mp hp
      exact if_pos ⟨z, hz, rfl⟩
  have sq2 : SqL K (fun b => if ∃ z ∈ cs, z.p = b then none else Hh b) a (ns.map V.int) := by
    have na : ¬ ∃ z ∈ cs, z.p = a := by
      rintro ⟨z, hz, rfl⟩
      have := ck.tab z hz
      rw [scr] at this
      cases this
    rcases sq with (sq | ⟨o, sq⟩) | sq
    · exact .inl (.inl ((if_neg na).trans sq))
    · exact .inl (.inr ⟨o, (if_neg na).trans sq⟩)
    · exact .inr sq
  exact ⟨rfl, _, [], [], [.scr (ns.map D.int)], rh, .one (.scr sq2 (.ints ns)), _, h2, e, fun _ _ _ v _ _ _ _ _ _ r => by cases r; rfl⟩
/-- the tables of the defs that hold a lambda -/
def csD (K : PySem.W.Frag) (tf : List (He.Defn × Str)) : List Cs := tf.map fun p => ⟨(He.cT K p.1).1, (He.cT K p.1).2, p.2⟩
theorem csD_ok {fa : List He.Fa} {fn : List He.DefD} {ts : List He.Tab} {tf : List (He.Defn × Str)} {ex : PySem.W.Frag → Bool} {w : World} {hp : Heap} {K : PySem.W.Frag} (kin : K.In hp) (c : He.SaysX fa fn ts (tf.map Prod.fst) ex w hp K) (one : ∀ z ∈ csD K tf, ∀ y ∈ csD K tf, z.p = y.p → z.q = y.q) : CsOk K hp (csD K tf) := by
  refine ⟨fun z hz => ?_, fun z hz => ?_, fun z hz => ?_, one⟩
  all_goals
    obtain ⟨p, hp2, rfl⟩ := List.mem_map.mp hz
    have hm : p.1 ∈ tf.map Prod.fst := List.mem_map_of_mem hp2
  · exact c.empty _ hm
  · exact c.out _ hm
  · exact codeHd_of_K kin (c.hd _ hm)
/-! ### a <= b <= c <= d -/
def E.link1 (g : D → D → Z → Option D) (y : D) (c : M D) : M D := bnd c fun w z => match g y w z with
  | some (.bl q) => some (.bl q, z)
  | _ => none
def E.link2 (g k : D → D → Z → Option D) (y : D) (c d : M D) : M D := bnd c fun w z => match g y w z with
  | some (.bl true) => E.link1 k w d z
  | some (.bl false) => some (.bl false, z)
  | _ => none
def E.link3 (f g k : D → D → Z → Option D) (x : D) (b c d : M D) : M D := bnd b fun y z => match f x y z with
  | some (.bl true) => E.link2 g k y c d z
  | some (.bl false) => some (.bl false, z)
  | _ => none
def E.chain3 (f g k : D → D → Z → Option D) (a b c d : M D) : M D := bnd a fun x => E.link3 f g k x b c d
def tLk1 (r : R2) (tc : TE) (y : V) : TE := fun σ H Q => tc σ H fun w H1 => r y w H1 Q
def tLk2 (r r' : R2) (tc td : TE) (y : V) : TE := fun σ H Q => tc σ H fun w H1 => r y w H1 fun z H2 => ∃ k, z = .bl k ∧ (if k = true then tLk1 r' td w σ H2 Q else Q (.bl false) H2)
def tLk3 (q r r' : R2) (tb tc td : TE) (x : V) : TE := fun σ H Q => tb σ H fun y H1 => q x y H1 fun z H2 => ∃ k, z = .bl k ∧ (if k = true then tLk2 r r' tc td y σ H2 Q else Q (.bl false) H2)
theorem pe_chain3 {X : Cx} {op op' op2 : CmpOp} {q r r' : R2} {a b c d : Expr} {ta tb tc td : TE} {pos : Pos} (h1 : OpR X (compareOp op) q) (h2 : OpR X (compareOp op') r) (h3 : OpR X (compareOp op2) r') (ha : PE X a ta) (hb : PE X b tb) (hc : PE X c tc) (hd : PE X d td)
    (hm : lastMarks [op, op', op2] [b, c, d] = false := by with_unfolding_all rfl) : PE X (.Compare a [op, op', op2] [b, c, d] pos) (fun σ H Q => ta σ H fun x H1 => tLk3 q r r' tb tc td x σ H1 Q) := by
  refine ⟨fun pins s σ H Q I h => ?_⟩
  apply Compare_chain (hm := hm)
  refine thn (ha.run pins s σ H _ I h) fun v s1 ⟨x, H1, I1, r1, q1⟩ => ?_
  apply chain_link
  refine thn (hb.run pins s1 σ H1 _ I1 q1) fun u s2 ⟨y, H2, I2, r2, q2⟩ => thn (h1 pins s2 σ H2 x y v u _ I2 r1 r2 q2) fun dd s3 ⟨z, H3, I3, r3, k, e, q3⟩ => ?_
  subst e
  cases r3
  apply wpAny_truthy_bool
  cases k with
  | false => exact ite_ff ⟨.bl false, H3, I3, rfl, q3⟩
  | true =>
    apply ite_tt
    apply chain_link
    refine thn (hc.run pins s3 σ H3 _ I3 q3) fun w s4 ⟨y2, H4, I4, r4, q4⟩ => thn (h2 pins s4 σ H4 y y2 u w _ I4 r2 r4 q4) fun dd s5 ⟨z, H5, I5, r5, k, e, q5⟩ => ?_
    subst e
    cases r5
    apply wpAny_truthy_bool
    cases k with
    | false => exact ite_ff ⟨.bl false, H5, I5, rfl, q5⟩
    | true =>
      apply ite_tt
      apply chain_last
      exact thn (hd.run pins s5 σ H5 _ I5 q5) fun w2 s6 ⟨y3, H6, I6, r6, q6⟩ => h3 pins s6 σ H6 y2 y3 w w2 Q I6 r4 r6 q6
section
variable {K : Kx} {B : Bs} {F : Hp} {rho : List Addr} {om : Nat → Option Addr} {z : Z} {σ : L2.St} {H : Hp} {Q : VK} {x : D} {xv : V}
theorem link1_go {r : R2} {g : D → D → Z → Option D} (hv : OpV K r g) {mc : M D} (rx : Rv K F rho om x xv) (h : Go K (rV K) B F rho om (E.link1 g x mc) z σ H Q) : tLk1 r (Te K mc) xv σ H Q := by
  refine (h.bnd.imp fun _ _ H2 _ _ yv _ _ _ _ _ ⟨F3, rho3, z3, y3, eg2, s2, p2, r2, g2⟩ => ?_).tx (R := rV K)
  obtain ⟨R, d, z4, e, k⟩ := g2
  dsimp only at e
  split at e
  · rename_i c hd
    cases e
    refine hv R (rx.mono s2 p2) r2 hd _ fun F' H' v s R' q => ?_
    cases q with
    | pure q =>
      cases q
      exact k F' _ H' _ s (List.prefix_refl _) R' (.pure (.bl c))
  · cases e
theorem link2_go {r r' : R2} {g k' : D → D → Z → Option D} (hv : OpV K r g) (hv' : OpV K r' k') {mc md : M D} (rx : Rv K F rho om x xv) (h : Go K (rV K) B F rho om (E.link2 g k' x mc md) z σ H Q) : tLk2 r r' (Te K mc) (Te K md) xv σ H Q := by
  refine (h.bnd.imp fun _ _ H2 _ _ yv _ _ _ _ _ ⟨F3, rho3, z3, y3, eg2, s2, p2, r2, g2⟩ => ?_).tx (R := rV K)
  obtain ⟨R, d, z4, e, k⟩ := g2
  dsimp only at e
  split at e
  · rename_i hd
    refine hv R (rx.mono s2 p2) r2 hd _ fun F' H' v s R' q => ?_
    cases q with
    | pure q =>
      cases q
      refine ⟨true, rfl, ?_⟩
      rw [if_pos rfl]
      exact link1_go hv' (r2.mono s (List.prefix_refl _)) ⟨R', d, z4, e, fun F4 rho4 H4 v4 s4 p4 R4 q4 => k F4 rho4 H4 v4 (s.trans s4) p4 R4 q4⟩
  · rename_i hd
    cases e
    refine hv R (rx.mono s2 p2) r2 hd _ fun F' H' v s R' q => ?_
    cases q with
    | pure q =>
      cases q
      refine ⟨false, rfl, ?_⟩
      rw [if_neg (by decide)]
      exact k F' _ H' _ s (List.prefix_refl _) R' (.pure (.bl false))
  · cases e
theorem link3_go {q0 r r' : R2} {f g k' : D → D → Z → Option D} (hf : OpV K q0 f) (hv : OpV K r g) (hv' : OpV K r' k') {mb mc md : M D} (rx : Rv K F rho om x xv) (h : Go K (rV K) B F rho om (E.link3 f g k' x mb mc md) z σ H Q) : tLk3 q0 r r' (Te K mb) (Te K mc) (Te K md) xv σ H Q := by
  refine (h.bnd.imp fun _ _ H2 _ _ yv _ _ _ _ _ ⟨F3, rho3, z3, y3, eg2, s2, p2, r2, g2⟩ => ?_).tx (R := rV K)
  obtain ⟨R, d, z4, e, k⟩ := g2
  dsimp only at e
  split at e
  · rename_i hd
    refine hf R (rx.mono s2 p2) r2 hd _ fun F' H' v s R' q => ?_
    cases q with
    | pure q =>
      cases q
      refine ⟨true, rfl, ?_⟩
      rw [if_pos rfl]
      exact link2_go hv hv' (r2.mono s (List.prefix_refl _)) ⟨R', d, z4, e, fun F4 rho4 H4 v4 s4 p4 R4 q4 => k F4 rho4 H4 v4 (s.trans s4) p4 R4 q4⟩
  · rename_i hd
    cases e
    refine hf R (rx.mono s2 p2) r2 hd _ fun F' H' v s R' q => ?_
    cases q with
    | pure q =>
      cases q
      refine ⟨false, rfl, ?_⟩
      rw [if_neg (by decide)]
      exact k F' _ H' _ s (List.prefix_refl _) R' (.pure (.bl false))
  · cases e
end
theorem me_chain3 {X : Cx} {Tb : Tbs} {op op' op2 : CmpOp} {f g k : D → D → Z → Option D} {a b c d : Expr} {pos : Pos} {ma mb mc md : M D} (h1 : OpM X (compareOp op) f) (h2 : OpM X (compareOp op') g) (h3 : OpM X (compareOp op2) k) (ha : PE X a (Te (kx X Tb) ma)) (hb : PE X b (Te (kx X Tb) mb)) (hc : PE X c (Te (kx X Tb) mc)) (hd : PE X d (Te (kx X Tb) md))
    (hm : lastMarks [op, op', op2] [b, c, d] = false := by with_unfolding_all rfl) : PE X (.Compare a [op, op', op2] [b, c, d] pos) (Te (kx X Tb) (E.chain3 f g k ma mb mc md)) := by
  obtain ⟨r1, a1, b1⟩ := h1.rl
  obtain ⟨r2, a2, b2⟩ := h2.rl
  obtain ⟨r3, a3, b3⟩ := h3.rl
  refine pe_imp (pe_chain3 a1 a2 a3 ha hb hc hd hm) fun σ H Q ⟨B, F, rho, om, z, h⟩ => ?_
  exact (h.bnd.imp fun _ _ H1 _ _ xv _ _ _ _ _ ⟨F2, rho2, z2, x2, eg1, s1, p1, q1, g1⟩ => link3_go (b1 _) (b2 _) (b3 _) q1 g1).tx (R := rV (kx X Tb))
end Mi

set_option Elab.async false
set_option linter.all false
set_option maxRecDepth 100000
set_option synthInstance.maxSize 2000
set_option synthInstance.maxHeartbeats 400000
/-! Mi, part J: equality of typed data; what the printed texts lean on. -/
namespace Mi
open PySem L2
@[reducible] def eG (x : Str) (_ : Unit) : D := .str x
@[reducible] def sv : Option D → Sl
  | none => .no
  | some d => .val d
theorem sv_own (x : Option D) : N.isOwn (some (sv x)) = false := by cases x <;> rfl
def isVal : D → Bool
  | .own _ => false
  | .ref _ => false
  | .str _ => false
  | _ => true
theorem snap_val {d : D} (h : isVal d = true) (z : Z) : O.snap d z = d := by
  cases d <;> first | rfl | cases h
structure EqN {α : Type} [DecidableEq α] (n : Nat) (e : α → D) (f : α → PyData) : Prop where
  p : ∀ x, O.toP (e x) = some (f x)
  c : ∀ x, (f x).canLay0 = true
  d : ∀ x, (f x).depth ≤ n
  q : ∀ x y, PyData.eqv (f x) (f y) = decide (x = y)
/-- equality of data, whatever it is -/
def Pl.eqD (x y : D) : Option Bool := O.eqP x y ⟨[], []⟩
theorem eqP_free {x y : D} (hx : isVal x = true) (z z' : Z) (hy : isVal y = true) : O.eqP x y z = O.eqP x y z' := by
  have e : ∀ z, O.eqP x y z = O.eqD x y z := fun z => by cases x <;> first | rfl | cases hx
  rw [e, e]
  unfold O.eqD
  rw [snap_val hx, snap_val hx, snap_val hy, snap_val hy]
section
variable {α β γ δ ε ζ η : Type} [DecidableEq α] [DecidableEq β] [DecidableEq γ] [DecidableEq δ] [DecidableEq ε] [DecidableEq ζ] [DecidableEq η]
  {n m : Nat} {ea : α → D} {fa : α → PyData} {eb : β → D} {fb : β → PyData} {ec : γ → D} {fc : γ → PyData} {ed : δ → D} {fd : δ → PyData} {ee : ε → D} {fe : ε → PyData} {ef : ζ → D} {ff : ζ → PyData} {eg : η → D} {fg : η → PyData}
theorem EqN.eqP {e : α → D} {f : α → PyData} (h : EqN n e f) (hn : n ≤ 64) (x y : α) (z : Z) (hx : isVal (e x) = true) (hy : isVal (e y) = true) : O.eqP (e x) (e y) z = some (decide (x = y)) := by
  have e0 : O.eqP (e x) (e y) z = O.eqD (e x) (e y) z := by
    revert hx
    generalize e x = X
    intro hx
    cases X <;> first | rfl | cases hx
  rw [e0]
  unfold O.eqD
  rw [snap_val hx, snap_val hy, h.p, h.p]
  dsimp only
  rw [if_pos ⟨by unfold SeqAt.shaped; rw [h.c, decide_eq_true (Nat.le_trans (h.d x) hn)]; rfl, by unfold SeqAt.shaped; rw [h.c, decide_eq_true (Nat.le_trans (h.d y) hn)]; rfl⟩, h.q]
theorem EqN.mono {e : α → D} {f : α → PyData} (h : EqN n e f) (hn : n ≤ m) : EqN m e f := ⟨h.p, h.c, fun x => Nat.le_trans (h.d x) hn, h.q⟩
theorem EqN.I : EqN 0 eI PyData.int := ⟨fun _ => rfl, fun _ => by simp [PyData.canLay0], fun _ => by simp [PyData.depth], fun x y => by simp [PyData.eqv, Bool.beq_eq_decide_eq]⟩
theorem EqN.B : EqN 0 eB PyData.bool := ⟨fun _ => rfl, fun _ => by simp [PyData.canLay0], fun _ => by simp [PyData.depth], fun x y => by simp [PyData.eqv, Bool.beq_eq_decide_eq]⟩
theorem EqN.N : EqN 0 eN (fun _ => PyData.none) := ⟨fun _ => rfl, fun _ => by simp [PyData.canLay0], fun _ => by simp [PyData.depth], fun x y => by simp [PyData.eqv]⟩
theorem EqN.G {x : Str} (h : (PyData.str x).canLay0 = true) : EqN 0 (eG x) (fun _ => PyData.str x) := ⟨fun _ => rfl, fun _ => h, fun _ => by simp [PyData.depth], fun x y => by simp [PyData.eqv]⟩
def pO (f : α → PyData) : Option α → PyData
  | none => .none
  | some x => f x
theorem eqv_non {p : PyData} (h : p ≠ .none) : PyData.eqv .none p = false ∧ PyData.eqv p .none = false := by
  cases p <;> first | exact absurd rfl h | exact ⟨by simp [PyData.eqv], by simp [PyData.eqv]⟩
theorem EqN.O (h : EqN n ea fa) (hn : ∀ x, isNon (ea x) = false) : EqN n (eO ea) (pO fa) := by
  have nn : ∀ x, fa x ≠ .none := fun x e => by
    have h1 := h.p x
    rw [e] at h1
    have h2 := hn x
    revert h1 h2
    generalize ea x = d
    intro h1 h2
    cases d <;> first | (cases h2; done) | (rw [O.toP] at h1; first | (cases h1; done) | (cases q : O.toPs _ with | none => rw [q] at h1; cases h1 | some _ => rw [q] at h1; cases h1)) | (simp [O.toP] at h1; done)
  refine ⟨fun x => ?_, fun x => ?_, fun x => ?_, fun x y => ?_⟩
  · cases x with
    | none => rfl
    | some x => exact h.p x
  · cases x with
    | none => simp [pO, PyData.canLay0]
    | some x => exact h.c x
  · cases x with
    | none => simp [pO, PyData.depth]
    | some x => exact h.d x
  · cases x with
    | none => cases y with
      | none => simp [pO, PyData.eqv]
      | some y => rw [show pO fa none = .none from rfl, show pO fa (some y) = fa y from rfl, (eqv_non (nn y)).1]; simp
    | some x => cases y with
      | none => rw [show pO fa none = .none from rfl, show pO fa (some x) = fa x from rfl, (eqv_non (nn x)).2]; simp
      | some y => rw [show pO fa (some x) = fa x from rfl, show pO fa (some y) = fa y from rfl, h.q]; simp
theorem all_map {xs : List α} (h : EqN n ea fa) : O.toPs (xs.map ea) = some (xs.map fa) ∧ PyData.canLayAll0 (xs.map fa) = true ∧ PyData.depthAll (xs.map fa) ≤ n := by
  induction xs with
  | nil => exact ⟨rfl, by simp [PyData.canLayAll0], by simp [PyData.depthAll]⟩
  | cons x xs ih =>
    refine ⟨?_, ?_, ?_⟩
    · rw [List.map_cons, List.map_cons, O.toPs, h.p, ih.1]
    · simp [PyData.canLayAll0, h.c x, ih.2.1]
    · have := h.d x
      simp [PyData.depthAll, ih.2.2]
      omega
theorem eqv_map (h : EqN n ea fa) : ∀ xs ys : List α, PyData.eqvAll (xs.map fa) (ys.map fa) = decide (xs = ys)
  | [], [] => by simp [PyData.eqvAll]
  | [], _ :: _ => by simp [PyData.eqvAll]
  | _ :: _, [] => by simp [PyData.eqvAll]
  | x :: xs, y :: ys => by
    rw [List.map_cons, List.map_cons, PyData.eqvAll, h.q, eqv_map h xs ys]
    simp
theorem EqN.L (h : EqN n ea fa) : EqN (n + 1) (eL ea) (fun xs => .list (xs.map fa)) := by
  refine ⟨fun xs => ?_, fun xs => ?_, fun xs => ?_, fun xs ys => ?_⟩
  · show O.toP (.lst (xs.map ea)) = _
    rw [O.toP, (all_map h).1]
    rfl
  · rw [PyData.canLay0]; exact (all_map h).2.1
  · have := (all_map (xs := xs) h).2.2
    rw [PyData.depth]
    omega
  · rw [PyData.eqv]; exact eqv_map h xs ys
theorem EqN.U (h : EqN n ea fa) : EqN (n + 1) (eU ea) (fun xs => .tuple (xs.map fa)) := by
  refine ⟨fun xs => ?_, fun xs => ?_, fun xs => ?_, fun xs ys => ?_⟩
  · show O.toP (.tup (xs.map ea)) = _
    rw [O.toP, (all_map h).1]
    rfl
  · rw [PyData.canLay0]; exact (all_map h).2.1
  · have := (all_map (xs := xs) h).2.2
    rw [PyData.depth]
    omega
  · rw [PyData.eqv]; exact eqv_map h xs ys
theorem EqN.t1 (a : EqN n ea fa) : EqN (n + 1) (e1 ea) (fun p => .tuple [fa p]) := by
  refine ⟨fun p => ?_, fun p => ?_, fun p => ?_, fun p q => ?_⟩
  · simp [e1, O.toP, O.toPs, a.p]
  · simp [PyData.canLay0, PyData.canLayAll0, a.c]
  · have := a.d p
    simp [PyData.depth, PyData.depthAll]; omega
  · simp [PyData.eqv, PyData.eqvAll, a.q]
theorem EqN.t2 (a : EqN n ea fa) (b : EqN n eb fb) : EqN (n + 1) (e2 ea eb) (fun p => .tuple [fa p.1, fb p.2]) := by
  refine ⟨fun p => ?_, fun p => ?_, fun p => ?_, fun p q => ?_⟩
  · simp [e2, O.toP, O.toPs, a.p, b.p]
  · simp [PyData.canLay0, PyData.canLayAll0, a.c, b.c]
  · have := a.d p.1
    have := b.d p.2
    simp [PyData.depth, PyData.depthAll]; omega
  · simp [PyData.eqv, PyData.eqvAll, a.q, b.q, Prod.ext_iff]
theorem EqN.t3 (a : EqN n ea fa) (b : EqN n eb fb) (c : EqN n ec fc) : EqN (n + 1) (e3 ea eb ec) (fun p => .tuple [fa p.1, fb p.2.1, fc p.2.2]) := by
  refine ⟨fun p => ?_, fun p => ?_, fun p => ?_, fun p q => ?_⟩
  · simp [e3, O.toP, O.toPs, a.p, b.p, c.p]
  · simp [PyData.canLay0, PyData.canLayAll0, a.c, b.c, c.c]
  · have := a.d p.1
    have := b.d p.2.1
    have := c.d p.2.2
    simp [PyData.depth, PyData.depthAll]; omega
  · simp [PyData.eqv, PyData.eqvAll, a.q, b.q, c.q, Prod.ext_iff]
theorem EqN.t4 (a : EqN n ea fa) (b : EqN n eb fb) (c : EqN n ec fc) (d : EqN n ed fd) : EqN (n + 1) (e4 ea eb ec ed) (fun p => .tuple [fa p.1, fb p.2.1, fc p.2.2.1, fd p.2.2.2]) := by
  refine ⟨fun p => ?_, fun p => ?_, fun p => ?_, fun p q => ?_⟩
  · simp [e4, O.toP, O.toPs, a.p, b.p, c.p, d.p]
  · simp [PyData.canLay0, PyData.canLayAll0, a.c, b.c, c.c, d.c]
  · have := a.d p.1
    have := b.d p.2.1
    have := c.d p.2.2.1
    have := d.d p.2.2.2
    simp [PyData.depth, PyData.depthAll]; omega
  · simp [PyData.eqv, PyData.eqvAll, a.q, b.q, c.q, d.q, Prod.ext_iff]
theorem EqN.t6 (a : EqN n ea fa) (b : EqN n eb fb) (c : EqN n ec fc) (d : EqN n ed fd) (e : EqN n ee fe) (f : EqN n ef ff) : EqN (n + 1) (e6 ea eb ec ed ee ef) (fun p => .tuple [fa p.1, fb p.2.1, fc p.2.2.1, fd p.2.2.2.1, fe p.2.2.2.2.1, ff p.2.2.2.2.2]) := by
  refine ⟨fun p => ?_, fun p => ?_, fun p => ?_, fun p q => ?_⟩
  · simp [e6, O.toP, O.toPs, a.p, b.p, c.p, d.p, e.p, f.p]
  · simp [PyData.canLay0, PyData.canLayAll0, a.c, b.c, c.c, d.c, e.c, f.c]
  · have := a.d p.1
    have := b.d p.2.1
    have := c.d p.2.2.1
    have := d.d p.2.2.2.1
    have := e.d p.2.2.2.2.1
    have := f.d p.2.2.2.2.2
    simp [PyData.depth, PyData.depthAll]; omega
  · simp [PyData.eqv, PyData.eqvAll, a.q, b.q, c.q, d.q, e.q, f.q, Prod.ext_iff]
theorem EqN.t7 (a : EqN n ea fa) (b : EqN n eb fb) (c : EqN n ec fc) (d : EqN n ed fd) (e : EqN n ee fe) (f : EqN n ef ff) (g : EqN n eg fg) : EqN (n + 1) (e7 ea eb ec ed ee ef eg) (fun p => .tuple [fa p.1, fb p.2.1, fc p.2.2.1, fd p.2.2.2.1, fe p.2.2.2.2.1, ff p.2.2.2.2.2.1, fg p.2.2.2.2.2.2]) := by
  refine ⟨fun p => ?_, fun p => ?_, fun p => ?_, fun p q => ?_⟩
  · simp [e7, O.toP, O.toPs, a.p, b.p, c.p, d.p, e.p, f.p, g.p]
  · simp [PyData.canLay0, PyData.canLayAll0, a.c, b.c, c.c, d.c, e.c, f.c, g.c]
  · have := a.d p.1
    have := b.d p.2.1
    have := c.d p.2.2.1
    have := d.d p.2.2.2.1
    have := e.d p.2.2.2.2.1
    have := f.d p.2.2.2.2.2.1
    have := g.d p.2.2.2.2.2.2
    simp [PyData.depth, PyData.depthAll]; omega
  · simp [PyData.eqv, PyData.eqvAll, a.q, b.q, c.q, d.q, e.q, f.q, g.q, Prod.ext_iff]
theorem isValO {e : α → D} (h : ∀ x, isVal (e x) = true) (o : Option α) : isVal (eO e o) = true := by
  cases o with
  | none => rfl
  | some x => exact h x
end
/-! ### behind a part that may end all -/
def Pl.out {σ ρ β : Type} (k : σ → β) (r : ρ → β) : σ ⊕ ρ → β
  | .inl s => k s
  | .inr x => r x
theorem Rf.thnX {α β ρ : Type} {a rest : C} {z : Z} {Φ : α → Fl → Z → Prop} {o : Option (β ⊕ ρ)} {K : β → Option α} {E : ρ → Option α} (J : β → Z → Prop) (RT : ρ → Fl → Z → Prop) (h1 : Rf o a z fun v f z' => match v with | .inl v => f = .nx ∧ J v z' | .inr r => (∃ d, f = .rt d) ∧ RT r f z') (k : ∀ v z', J v z' → Rf (K v) rest z' Φ)
    (q : ∀ r r' f z', E r = some r' → (∃ d, f = .rt d) ∧ RT r f z' → Φ r' f z') : Rf (o.bind (Pl.out K E)) (C.seq a rest) z Φ :=
  Rf.thnO J RT h1 k q
theorem dataLe_ikey {α : Type} (iz : List Nat) (e : α → D) (k : α → List Int) (hk : ∀ x, keyI iz (e x) = some (k x)) (a b : α) : PySem.W.dataLe false (ikey iz) (e a) (e b) = decide (k a ≤ k b) := by
  rw [PySem.W.dataLe_eq]
  show (!PySem.W.dataLt (ikey iz (e b)) (ikey iz (e a))) = _
  unfold ikey
  rw [hk, hk, Option.getD_some, Option.getD_some, PySem.W.dataLt_tuple]
  have h := PySem.W.dataLt_ints (k b) (k a)
  unfold PySem.W.rowLt at h
  rw [h]
  rw [Bool.eq_iff_iff]
  simp [List.not_lt]
theorem ev_sortedKP {α : Type} {e : α → D} {iz : List Nat} {m : M D} {x : D} {z z1 : Z} {xs ys : List α} (k : α → List Int) (h1 : m z = some (x, z1)) (h2 : cont x z1 = some (false, xs.map e)) (hk : ∀ x, keyI iz (e x) = some (k x)) (hy : (if xs.length ≤ szl then some (xs.mergeSort fun a b => decide (k a ≤ k b)) else none) = some ys) : N.sortedK iz m z = some (ys.map e, z1) := by
  split at hy
  · rename_i hl
    cases hy
    unfold N.sortedK
    rw [bnd_of h1]
    simp only [h2]
    rw [if_pos ⟨by rw [List.length_map]; exact hl, by rw [List.all_eq_true]; intro d hd; obtain ⟨y, _, rfl⟩ := List.mem_map.mp hd; rw [hk y]; rfl⟩]
    unfold srt
    rw [← PySem.W.sort_maps (r := fun a b => decide (k a ≤ k b)) e fun a _ b _ => (dataLe_ikey iz e k hk a b).symm]
  · cases hy
section
variable {α β γ : Type} {x y d : D} {a b m : M D} {z z1 z2 : Z} {s s' s1 s2 : List Sl} {h h1 : List D} {i j k : Int} {p q : Bool}
theorem ev_nm {e : α → D} {v w : α} (h1 : m z = some (e v, z1)) (hx : some v = some w) : m z = some (e w, z1) := by cases hx; exact h1
theorem ss2 {i j : Nat} {u v : Sl} (h1 : s.set i u = s1) (h2 : s1.set j v = s2) : (s.set i u).set j v = s2 := by subst h1; exact h2
theorem ss3 {i j k : Nat} {u v w : Sl} {s3 : List Sl} (h1 : s.set i u = s1) (h2 : s1.set j v = s2) (h3 : s2.set k w = s3) : ((s.set i u).set j v).set k w = s3 := by subst h1 h2; exact h3
theorem ev_catP {e : α → D} {xs ys r : List α} (h1 : a z = some (x, z1)) (h2 : b z1 = some (y, z2)) (h3 : cont x z2 = some (false, xs.map e)) (h4 : cont y z2 = some (false, ys.map e)) (hx : noScr x = true) (hy : noScr y = true) (hr : Pl.cat xs ys = some r) : N.cat a b z = some (r.map e, z2) := by
  unfold Pl.cat at hr
  split at hr
  · rename_i hl
    cases hr
    rw [ev_cat h1 h2 h3 h4 hx hy (by rw [List.length_map, List.length_map]; exact hl), List.map_append]
  · cases hr
theorem ev_chainO {f g : D → D → Z → Option D} {c : M D} {o : Option Bool} {r : Bool} (h1 : a z = some (x, z1)) (h2 : b z1 = some (y, z1)) (h3 : f x y z1 = some (.bl p)) (h4 : ∀ q, o = some q → ∃ w, c z1 = some (w, z1) ∧ g y w z1 = some (.bl q)) (e : Pl.andO p o = some r) : E.chain f g a b c z = some (.bl r, z1) := by
  unfold Pl.andO at e
  cases p with
  | true =>
    obtain ⟨w, e1, e2⟩ := h4 r e
    rw [ev_chain h1 h2 h3 (fun _ => e1) fun _ => e2]
    rfl
  | false =>
    cases e
    rw [ev_chain (w := .non) (q := true) h1 h2 h3 (fun h => nomatch h) fun h => nomatch h]
    rfl
def Pl.pop (xs : List α) : Option (α × List α) := match xs.getLast? with
  | some x => some (x, xs.dropLast)
  | none => none
theorem Rf.pop {rest : C} {Φ : γ → Fl → Z → Prop} {i j : Nat} {xs : List β} {K : β × List β → Option γ} (e : β → D) (hi : s[i]? = some (.own (.lst (xs.map e)))) (hp : ∀ x, isPure (e x) = true) {t : β × List β → List Sl} (hs : ∀ p, (s.set i (.own (.lst (List.map e p.2)))).set j (.val (e p.1)) = t p) (k : ∀ p, Rf (K p) rest ⟨t p, h⟩ Φ) :
    Rf ((Pl.pop xs).bind K) (C.seq (C.set j (E.chg U.pop (E.var i) [])) rest) ⟨s, h⟩ Φ := Rf.bd fun p hy => by
  unfold Pl.pop at hy
  split at hy
  · rename_i x hx
    cases hy
    refine (k (x, xs.dropLast)).nx (cs_setN (ev_chgN (ev_varO hi) hi ev_args0 hi (?_ : U.pop _ _ = some (e x, (xs.dropLast).map e)) rfl) (hp x) (hs (x, xs.dropLast)))
    unfold U.pop
    dsimp only
    have : (xs.map e)[(xs.map e).length - 1]? = some (e x) := by
      rw [List.length_map, List.getElem?_map, ← List.getLast?_eq_getElem?, hx]
      rfl
    rw [this, List.map_dropLast]
  · cases hy
end
theorem Dr.q_draw {s : DS} {many : Int} (tl : List D) {r : Int × DS} (hr : Pl.draw s many = some r) : Dr.m_law_draw [.ref 1, .int many] (stT s tl) = some (.int r.1, stT r.2 tl) := by
  unfold Pl.draw at hr
  split at hr
  · rename_i c
    cases hr
    exact Dr.draw_evT tl s c.1 (Smn.of (by omega)) (by decide)
  · cases hr
theorem St.q_take {s : Mi.TS} {many : Int} (tl : List D) {r : Int × Mi.TS} (hr : Pl.take s many = some r) : St.m_law_take [.ref 0, .int many] (tkT s tl) = some (.int r.1, tkT r.2 tl) := by
  unfold Pl.take at hr
  split at hr
  · rename_i c
    cases hr
    exact St.take_evT tl s c
  · cases hr
/-! ### instances -/
section
variable {α β γ : Type} {x y d : D} {a b m : M D} {z z1 z2 : Z} {s s' s1 s2 : List Sl} {h h1 : List D} {Φ : α → Fl → Z → Prop} {rest : C}
theorem ev_fldC {nm f : Str} (h1 : m z = some (x, z1)) (h2 : ∀ z, O.fldC nm f x z = some d) : E.un (O.fldC nm f) m z = some (d, z1) := ev_un h1 (h2 z1)
theorem ev_mkP {nm : Str} {mf : Fn} {g : List D → List D} {ms : List (M D)} {xs : List D} {fs : List (Str × D)} (h1 : E.args ms z = some (xs, ⟨s, h⟩)) (h2 : mf (.ref h.length :: g xs) (h ++ [.ins nm []]) = some (.non, h ++ [.ins nm fs])) (hc : calms (fs.map Prod.snd) = true) : E.mk nm mf g ms z = some (.ins nm fs, ⟨s, h⟩) := by
  unfold E.mk
  rw [bnd_of h1]
  dsimp only
  rw [h2]
  have e : mkV h (some (.non, h ++ [.ins nm fs])) = some (.ins nm fs) := by
    unfold mkV
    simp only [List.getElem?_append_right (Nat.le_refl _), Nat.sub_self, List.getElem?_cons_zero]
    rw [if_pos ⟨trivial, hc⟩]
  rw [e]
theorem ev_methP {nm f : Str} {mf : Fn} {o : M D} {ms : List (M D)} {xs : List D} {fs : List (Str × D)} {h' : List D} (h1 : o z = some (x, z1)) (h2 : ∀ z, insOf x z = some (nm, fs)) (h3 : (fs.lookup f).isNone = true) (h4 : E.args ms z1 = some (xs, ⟨s, h⟩)) (h5 : mf (x :: xs) h = some (d, h')) : E.meth nm f mf o ms z = some (d, ⟨s, h'⟩) := by
  unfold E.meth
  rw [bnd_of h1]
  simp only [h2]
  rw [if_pos ⟨trivial, h3⟩, bnd_of h4]
  simp only [h5]
theorem putFD_new {f : Str} {d : D} : ∀ {fs : List (Str × D)}, (fs.map Prod.fst).contains f = false → putFD f d fs = fs ++ [(f, d)]
  | [], _ => rfl
  | (k, x) :: fs, h => by
    rw [List.map_cons, List.contains_cons, Bool.or_eq_false_iff] at h
    have hk : ¬ k = f := fun e => by rw [e] at h; simp at h
    unfold putFD
    rw [if_neg hk, putFD_new h.2]
    rfl
theorem lookup_at {f : Str} {d : D} : ∀ {fs : List (Str × D)} {i : Nat}, fs[i]? = some (f, d) → ((fs.map Prod.fst).take i).contains f = false → fs.lookup f = some d
  | [], i, h, _ => by simp at h
  | (k, x) :: fs, 0, h, _ => by
    have h : (k, x) = (f, d) := Option.some.inj h
    cases h
    rw [List.lookup_cons, beq_self_eq_true]
  | (k, x) :: fs, i + 1, h, g => by
    rw [List.map_cons, List.take_succ_cons, List.contains_cons, Bool.or_eq_false_iff] at g
    rw [List.lookup_cons, g.1]
    exact lookup_at (i := i) h g.2
theorem lookup_atK {f : Str} {d : D} {fs : List (Str × D)} {ks : List Str} {i : Nat} (hk : fs.map Prod.fst = ks) (h : fs[i]? = some (f, d)) (g : (ks.take i).contains f = false) : fs.lookup f = some d := by
  subst hk
  exact lookup_at h g
theorem fld_at {nm f : Str} {fs : List (Str × D)} {ks : List Str} {i : Nat} (z : Z) (hk : fs.map Prod.fst = ks) (h : fs[i]? = some (f, d)) (g : (ks.take i).contains f = false) : O.fldC nm f (.ins nm fs) z = some d := by
  subst hk
  unfold O.fldC insOf
  show (if nm = nm then fs.lookup f else none) = _
  rw [if_pos rfl, lookup_at h g]
theorem lookup_not {f : Str} : ∀ {fs : List (Str × D)}, (fs.map Prod.fst).contains f = false → (fs.lookup f).isNone = true
  | [], _ => rfl
  | (k, x) :: fs, h => by
    rw [List.map_cons, List.contains_cons, Bool.or_eq_false_iff] at h
    rw [List.lookup_cons, h.1]
    exact lookup_not h.2
/-- self.f = e, in __init__ -/
theorem Rf.fset {i : Nat} {nm f : Str} {fs : List (Str × D)} {ks : List Str} {t : β} {K : β → Option α} (e : β → D) (he : m ⟨s, h ++ [.ins nm fs]⟩ = some (e t, ⟨s, h ++ [.ins nm fs]⟩)) (hp : ∀ x, isPure (e x) = true) (hi : s[i]? = some (.val (.ref h.length))) (hk : fs.map Prod.fst = ks) (hn : ks.contains f = false) (hl : ks.length < 1000) {fs' : β → List (Str × D)} (hf : ∀ x, fs ++ [(f, e x)] = fs' x) (k : ∀ x, Rf (K x) rest ⟨s, h ++ [.ins nm (fs' x)]⟩ Φ) :
    Rf ((some t).bind K) (C.seq (C.fsetC nm f (E.var i) m) rest) ⟨s, h ++ [.ins nm fs]⟩ Φ := by
  subst hk
  refine (k t).nx ?_
  unfold C.fsetC
  rw [bnd_of he, bnd_of (ev_var hi)]
  dsimp only
  rw [if_pos (hp t), List.getElem?_append_right (Nat.le_refl _), Nat.sub_self]
  dsimp only [List.getElem?_cons_zero]
  rw [if_pos ⟨rfl, by rw [List.length_map] at hl; exact hl⟩, putFD_new hn, hf, List.set_append_right _ _ (Nat.le_refl _), Nat.sub_self]
  rfl
theorem ev_fldN {i : Nat} {nm f : Str} {fs : List (Str × D)} (hi : s[i]? = some (.val (.ref h.length))) (hf : fs.lookup f = some d) : E.un (O.fldC nm f) (E.var i) ⟨s, h ++ [.ins nm fs]⟩ = some (d, ⟨s, h ++ [.ins nm fs]⟩) := by
  refine ev_un (ev_var hi) ?_
  unfold O.fldC insOf
  dsimp only
  rw [List.getElem?_append_right (Nat.le_refl _), Nat.sub_self]
  show (if nm = nm then fs.lookup f else none) = _
  rw [if_pos rfl, hf]
end
theorem Rf.none {α : Type} {c : C} {z : Z} {Φ : α → Fl → Z → Prop} : Rf Option.none c z Φ := fun r e => by cases e
/-! ### tags; data of several kinds -/
@[reducible] def eE (tags : List Str) (i : Fin tags.length) : D := .str tags[i]
theorem EqN.E {tags : List Str} (h : (tags.all fun x => (PyData.str x).canLay0) = true) (hn : tags.Nodup) : EqN 0 (eE tags) (fun i => PyData.str tags[i]) :=
  ⟨fun _ => rfl, fun i => List.all_eq_true.mp h _ (List.getElem_mem i.isLt), fun _ => by simp [PyData.depth], fun i j => by
    simp only [PyData.eqv]
    rw [Bool.eq_iff_iff, beq_iff_eq, decide_eq_true_eq]
    constructor
    · intro e
      have hw := List.pairwise_iff_getElem.mp hn
      rcases Nat.lt_trichotomy i.val j.val with c | c | c
      · exact absurd e (hw _ _ i.isLt j.isLt c)
      · exact Fin.ext c
      · exact absurd e.symm (hw _ _ j.isLt i.isLt c)
    · rintro rfl
      rfl⟩
def Pl.asI : D → Option Int
  | .int i => some i
  | _ => none
def Pl.asB : D → Option Bool
  | .bl i => some i
  | _ => none
section
variable {α β γ : Type} {x y d : D} {a b m : M D} {z z1 z2 : Z} {s s' s1 s2 : List Sl} {h h1 : List D}
theorem ev_asI {i : Int} (h1 : m z = some (x, z1)) (h2 : Pl.asI x = some i) : m z = some (.int i, z1) := by
  cases x <;> first | (cases h2; exact h1) | cases h2
theorem ev_asB {i : Bool} (h1 : m z = some (x, z1)) (h2 : Pl.asB x = some i) : m z = some (.bl i, z1) := by
  cases x <;> first | (cases h2; exact h1) | cases h2
def Pl.setAt (xs : List α) (i : Int) (x : α) : Option (List α) := (ixN xs.length i).map fun k => xs.set k x
/-- xs[i] = e of a list that a slot owns -/
theorem Rf.setIx {δ : Type} {Φ : δ → Fl → Z → Prop} {rest : C} {i : Nat} {mi me : M D} {xs : List β} {j : Int} {t : β} {K : List β → Option δ} (e : β → D) (he : me z = some (e t, z1)) (hi : s[i]? = some (.own (.lst (xs.map e)))) (hm : z1 = ⟨s, h⟩) (hj : mi ⟨s, h⟩ = some (.int j, ⟨s, h1⟩)) (hp : isPure (e t) = true) {s' : List β → List Sl} (hs : ∀ ys : List β, s.set i (.own (.lst (ys.map e))) = s' ys) (k : ∀ ys, Rf (K ys) rest ⟨s' ys, h1⟩ Φ) :
    Rf ((Pl.setAt xs j t).bind K) (C.seq (C.setIx (E.var i) mi me) rest) z Φ := Rf.bd fun ys hy => by
  subst hm
  unfold Pl.setAt at hy
  cases hn : ixN xs.length j with
  | none => rw [hn] at hy; cases hy
  | some n =>
    rw [hn] at hy
    cases hy
    refine (k (xs.set n t)).nx ?_
    rw [← hs]
    refine cs_setIxO he (ev_varO hi) hj hp hi ?_
    unfold U.setAt
    rw [List.length_map, hn]
    show some ((xs.map e).set n (e t)) = _
    rw [List.map_set]
end
section
variable {x y w v d : D} {a b c m : M D} {z z1 z2 z3 : Z} {p q r : Bool}
theorem ev_chain3 {f g k : D → D → Z → Option D} {dd : M D} (h1 : a z = some (x, z1)) (h2 : b z1 = some (y, z1)) (h3 : f x y z1 = some (.bl p)) (h4 : c z1 = some (w, z1)) (h5 : g y w z1 = some (.bl q)) (h6 : dd z1 = some (v, z1)) (h7 : k w v z1 = some (.bl r)) : E.chain3 f g k a b c dd z = some (.bl (p && (q && r)), z1) := by
  unfold E.chain3
  rw [bnd_of h1]
  unfold E.link3
  rw [bnd_of h2]
  simp only [h3]
  cases p with
  | false => rfl
  | true =>
    show E.link2 g k y c dd z1 = _
    unfold E.link2
    rw [bnd_of h4]
    simp only [h5]
    cases q with
    | false => rfl
    | true =>
      show E.link1 k w dd z1 = _
      unfold E.link1
      rw [bnd_of h6]
      simp only [h7]
      rfl
end
theorem me_globI {X : Cx} {Tb : Tbs} {x : Str} {i : Int} {t : Tok} {pos : Pos} (hg : Gl X x) (hm : X.mg x = some (.int i t)) (hd : (x == ("__debug__" : Str)) = false := by decide) : PE X (.Name x pos) (Te (kx X Tb) (E.c (.int i))) :=
  me_glob (v := .int i) hg hm ⟨_, rfl⟩ (fun _ _ => .int _) hd
end Mi

set_option Elab.async false
set_option linter.all false
set_option maxRecDepth 100000
/-! Mi, part O: reasoning over the plain terms. -/
namespace Mi
open PySem L2
/-- o is told, and Φ holds of it -/
def Tot {α : Type} (o : Option α) (Φ : α → Prop) : Prop := ∃ r, o = some r ∧ Φ r
section
variable {α β γ σ ρ : Type} {o : Option α} {Φ Ψ : α → Prop}
theorem Tot.some {r : α} (h : Φ r) : Tot (some r) Φ := ⟨r, rfl, h⟩
theorem Tot.imp (h : Tot o Ψ) (i : ∀ r, Ψ r → Φ r) : Tot o Φ := by
  obtain ⟨r, e, q⟩ := h
  exact ⟨r, e, i r q⟩
theorem Tot.bind {o : Option β} {K : β → Option α} {Ψ : β → Prop} (h : Tot o Ψ) (k : ∀ r, Ψ r → Tot (K r) Φ) : Tot (o.bind K) Φ := by
  obtain ⟨r, e, q⟩ := h
  obtain ⟨r2, e2, q2⟩ := k r q
  exact ⟨r2, by rw [e]; exact e2, q2⟩
theorem Tot.of {o : Option β} {K : β → Option α} {r : β} (h : o = Option.some r) (k : Tot (K r) Φ) : Tot (o.bind K) Φ := by subst h; exact k
theorem Tot.nm {K : β → Option α} {r : β} (k : Tot (K r) Φ) : Tot ((Option.some r).bind K) Φ := k
theorem Tot.ite {p : Bool} {a b : Option α} (h1 : p = true → Tot a Φ) (h2 : p = false → Tot b Φ) : Tot (if p = true then a else b) Φ := by
  cases p with
  | true => exact h1 rfl
  | false => exact h2 rfl
theorem Tot.iteT {p : Bool} {a b : Option α} (hp : p = true) (h1 : Tot a Φ) : Tot (if p = true then a else b) Φ := by subst hp; exact h1
theorem Tot.iteF {p : Bool} {a b : Option α} (hp : p = false) (h1 : Tot b Φ) : Tot (if p = true then a else b) Φ := by subst hp; exact h1
theorem Tot.eq {r : α} (h : o = Option.some r) (q : Φ r) : Tot o Φ := ⟨r, h, q⟩
theorem Tot.get {r : α} (h : Tot o fun x => x = r) : o = Option.some r := by
  obtain ⟨x, e, rfl⟩ := h
  exact e
theorem Tot.draw {s : DS} {many : Int} {K : Int × DS → Option α} (h : 0 < many) (h2 : many ≤ 1000000000000) (k : ∀ (v : Int) (s2 : DS), 0 ≤ v → v < many → Tot (K (v, s2)) Φ) : Tot ((Pl.draw s many).bind K) Φ := by
  refine Tot.of (r := (drawV s many, drawS s many)) ?_ (k _ _ (drawV_nn s h) (drawV_lt s h))
  unfold Pl.draw
  rw [if_pos ⟨h, h2⟩]
theorem Tot.take {s : TS} {many : Int} {K : Int × TS → Option α} (h : 0 < many) (k : ∀ (v : Int) (s2 : TS), 0 ≤ v → v < many → Tot (K (v, s2)) Φ) : Tot ((Pl.take s many).bind K) Φ := by
  refine Tot.of (r := (takeV s many, takeS s)) ?_ (k _ _ (takeV_nn s h) (takeV_lt s h))
  unfold Pl.take
  rw [if_pos h]
/-- for, by what holds of what is left -/
theorem Tot.loopN {f : β → σ → Option σ} {Q : σ → Prop} (I : List β → σ → Prop) (step : ∀ x xs s, I (x :: xs) s → Tot (f x s) fun s2 => I xs s2) (fin : ∀ s, I [] s → Q s) : ∀ (xs : List β) (s : σ), I xs s → Tot (Pl.forN f xs s) Q
  | [], s, h => ⟨s, rfl, fin s h⟩
  | x :: xs, s, h => by
    obtain ⟨s2, e, q⟩ := step x xs s h
    obtain ⟨s3, e3, q3⟩ := Tot.loopN I step fin xs s2 q
    exact ⟨s3, by rw [Pl.forN, e]; exact e3, q3⟩
theorem Tot.forN {f : β → σ → Option σ} {xs : List β} {s : σ} {K : σ → Option α} (I : List β → σ → Prop) (h0 : I xs s) (step : ∀ x xs s, I (x :: xs) s → Tot (f x s) fun s2 => I xs s2) (k : ∀ s, I [] s → Tot (K s) Φ) : Tot ((Pl.forN f xs s).bind K) Φ :=
  Tot.bind (Tot.loopN (Q := fun s => I [] s) I step (fun _ h => h) xs s h0) k
/-- .. over the turns of a range -/
theorem rng_cons {a b : Int} (h : a < b) : Pl.rng a b = a :: Pl.rng (a + 1) b := by
  unfold Pl.rng
  obtain ⟨n, hn⟩ : ∃ n : Nat, b - a = n + 1 := ⟨(b - a - 1).toNat, by omega⟩
  have e1 : (b - a).toNat = n + 1 := by omega
  have e2 : (b - (a + 1)).toNat = n := by omega
  rw [e1, e2, List.range_succ_eq_map, List.map_cons, List.map_map]
  rw [List.cons.injEq]
  refine ⟨by simp, ?_⟩
  apply List.map_congr_left
  intro i _
  simp only [Function.comp]
  push_cast
  omega
theorem rng_nil {a b : Int} (h : b ≤ a) : Pl.rng a b = [] := by
  unfold Pl.rng
  have e : (b - a).toNat = 0 := by omega
  rw [e]
  rfl
theorem rng_mem {a b n : Int} : n ∈ Pl.rng a b ↔ a ≤ n ∧ n < b := by
  unfold Pl.rng
  simp only [List.mem_map, List.mem_range]
  constructor
  · rintro ⟨i, hi, rfl⟩
    omega
  · rintro ⟨h1, h2⟩
    exact ⟨(n - a).toNat, by omega, by omega⟩
theorem rng_len {a b : Int} : (Pl.rng a b).length = (b - a).toNat := by unfold Pl.rng; simp
theorem rng_lt {a b : Int} : (Pl.rng a b).Pairwise (· < ·) := by
  unfold Pl.rng
  rw [List.pairwise_map]
  exact (List.pairwise_lt_range (n := (b - a).toNat)).imp fun h => by omega
theorem Tot.rngO {a b : Int} {K : List Int → Option α} (h : (-(2 ^ 62) ≤ a ∧ a < 2 ^ 62) ∧ -(2 ^ 62) ≤ b ∧ b < 2 ^ 62) (k : Tot (K (Pl.rng a b)) Φ) : Tot ((Pl.rngO a b).bind K) Φ := by
  refine Tot.of (r := Pl.rng a b) ?_ k
  unfold Pl.rngO
  rw [if_pos h]
theorem Tot.loopR {f : Int → σ → Option σ} {Q : σ → Prop} (I : Int → σ → Prop) (b : Int) (step : ∀ i s, i < b → I i s → Tot (f i s) fun s2 => I (i + 1) s2) (fin : ∀ s, I b s → Q s) : ∀ (n : Nat) (a : Int) (s : σ), b - a = n → I a s → Tot (Pl.forN f (Pl.rng a b) s) Q
  | 0, a, s, hn, h => by
    have : a = b := by omega
    subst this
    rw [rng_nil (Int.le_refl _)]
    exact ⟨s, rfl, fin s h⟩
  | n + 1, a, s, hn, h => by
    have hab : a < b := by omega
    rw [rng_cons hab]
    obtain ⟨s2, e, q⟩ := step a s hab h
    obtain ⟨s3, e3, q3⟩ := Tot.loopR I b step fin n (a + 1) s2 (by omega) q
    exact ⟨s3, by rw [Pl.forN, e]; exact e3, q3⟩
theorem Tot.forR {f : Int → σ → Option σ} {a b : Int} {s : σ} {K : σ → Option α} (I : Int → σ → Prop) (hab : a ≤ b) (h0 : I a s) (step : ∀ i s, a ≤ i → i < b → I i s → Tot (f i s) fun s2 => I (i + 1) s2) (k : ∀ s, I b s → Tot (K s) Φ) : Tot ((Pl.forN f (Pl.rng a b) s).bind K) Φ :=
  Tot.bind (Tot.loopR (Q := fun s => I b s) (fun i s => a ≤ i ∧ I i s) b (fun i s hi h => (step i s h.1 hi h.2).imp fun s2 q => ⟨by omega, q⟩) (fun _ h => h.2) (b - a).toNat a s (by omega) ⟨Int.le_refl _, h0⟩) k
/-- for with exits: an invariant over what is left; what holds when it is left -/
theorem Tot.loopO {f : β → σ → Option (Pl.Out σ ρ)} {Q : σ ⊕ ρ → Prop} (I : List β → σ → Prop) (step : ∀ x xs s, I (x :: xs) s → Tot (f x s) fun o => match o with | .go s2 => I xs s2 | .brk s2 => Q (.inl s2) | .ret r => Q (.inr r)) (fin : ∀ s, I [] s → Q (.inl s)) : ∀ (xs : List β) (s : σ), I xs s → Tot (Pl.forO f xs s) Q
  | [], s, h => ⟨.inl s, rfl, fin s h⟩
  | x :: xs, s, h => by
    obtain ⟨o, e, q⟩ := step x xs s h
    cases o with
    | go s2 =>
      obtain ⟨s3, e3, q3⟩ := Tot.loopO I step fin xs s2 q
      exact ⟨s3, by rw [Pl.forO, e]; exact e3, q3⟩
    | brk s2 => exact ⟨.inl s2, by rw [Pl.forO, e], q⟩
    | ret r => exact ⟨.inr r, by rw [Pl.forO, e], q⟩
theorem Tot.forO {f : β → σ → Option (Pl.Out σ ρ)} {xs : List β} {s : σ} {K : σ → Option α} {E : ρ → Option α} (I : List β → σ → Prop) (QB : σ → Prop) (QR : ρ → Prop) (h0 : I xs s) (step : ∀ x xs s, I (x :: xs) s → Tot (f x s) fun o => match o with | .go s2 => I xs s2 | .brk s2 => QB s2 | .ret r => QR r)
    (k : ∀ s, I [] s ∨ QB s → Tot (K s) Φ) (kr : ∀ r, QR r → Tot (E r) Φ) : Tot ((Pl.forO f xs s).bind (Pl.out K E)) Φ := by
  refine Tot.bind (Tot.loopO (Q := fun o => match o with | .inl s => I [] s ∨ QB s | .inr r => QR r) I (fun x xs s h => (step x xs s h).imp fun o q => ?_) (fun s h => .inl h) xs s h0) fun o q => ?_
  · cases o with
    | go s2 => exact q
    | brk s2 => exact .inr q
    | ret r => exact q
  · cases o with
    | inl s => exact k s q
    | inr r => exact kr r q
/-- .. whose body never leaves -/
theorem Tot.forG {f : β → σ → Option (Pl.Out σ ρ)} {xs : List β} {s : σ} {K : σ → Option α} {E : ρ → Option α} (I : List β → σ → Prop) (h0 : I xs s) (step : ∀ x xs s, I (x :: xs) s → Tot (f x s) fun o => ∃ s2, o = .go s2 ∧ I xs s2) (k : ∀ s, I [] s → Tot (K s) Φ) : Tot ((Pl.forO f xs s).bind (Pl.out K E)) Φ := by
  refine Tot.forO I (fun _ => False) (fun _ => False) h0 (fun x xs s h => (step x xs s h).imp fun o q => ?_) (fun s q => q.elim (k s) False.elim) fun _ h => h.elim
  obtain ⟨s2, rfl, q⟩ := q
  exact q
theorem Tot.whO {t : σ → Option Bool} {f : σ → Option (Pl.Out σ ρ)} {Q : σ ⊕ ρ → Prop} (I : Nat → σ → Prop) (step : ∀ n s, I n s → Tot (t s) fun p => (p = false → Q (.inl s)) ∧ (p = true → Tot (f s) fun o => match o with | .go s2 => ∃ m, m < n ∧ I m s2 | .brk s2 => Q (.inl s2) | .ret r => Q (.inr r))) : ∀ (n : Nat) (s : σ), I n s → Tot (Pl.whO t f s) Q := by
  intro n
  induction n using Nat.strongRecOn with
  | ind n ih =>
    intro s h
    obtain ⟨p, e, q1, q2⟩ := step n s h
    cases p with
    | false => exact ⟨.inl s, by rw [Pl.whO, e], q1 rfl⟩
    | true =>
      obtain ⟨o, e2, q⟩ := q2 rfl
      cases o with
      | go s2 =>
        obtain ⟨m, hm, q⟩ := q
        obtain ⟨r, e3, q3⟩ := ih m hm s2 q
        exact ⟨r, by rw [Pl.whO, e]; dsimp only; rw [e2]; exact e3, q3⟩
      | brk s2 => exact ⟨.inl s2, by rw [Pl.whO, e]; dsimp only; rw [e2], q⟩
      | ret r => exact ⟨.inr r, by rw [Pl.whO, e]; dsimp only; rw [e2], q⟩
theorem Tot.wh {t : σ → Option Bool} {f : σ → Option (Pl.Out σ ρ)} {s : σ} {K : σ → Option α} {E : ρ → Option α} (I : Nat → σ → Prop) (QB : σ → Prop) (QR : ρ → Prop) (n : Nat) (h0 : I n s) (step : ∀ n s, I n s → Tot (t s) fun p => (p = false → QB s) ∧ (p = true → Tot (f s) fun o => match o with | .go s2 => ∃ m, m < n ∧ I m s2 | .brk s2 => QB s2 | .ret r => QR r))
    (k : ∀ s, QB s → Tot (K s) Φ) (kr : ∀ r, QR r → Tot (E r) Φ) : Tot ((Pl.whO t f s).bind (Pl.out K E)) Φ := by
  refine Tot.bind (Tot.whO (Q := fun o => match o with | .inl s => QB s | .inr r => QR r) I (fun n s h => (step n s h).imp fun p q => ⟨q.1, fun hp => (q.2 hp).imp fun o q => ?_⟩) n s h0) fun o q => ?_
  · cases o with
    | go s2 => exact q
    | brk s2 => exact q
    | ret r => exact q
  · cases o with
    | inl s => exact k s q
    | inr r => exact kr r q
/-! ### operations that are told -/
theorem comp_t {p : β → Bool} {f : β → γ} : ∀ xs : List β, Pl.cmp (fun x => some (p x)) (fun x => some (f x)) xs = some ((xs.filter p).map f)
  | [] => rfl
  | x :: xs => by
    rw [Pl.cmp]
    show (if p x = true then (some (f x)).bind fun y => (Pl.cmp _ _ xs).bind fun ys => some (y :: ys) else Pl.cmp _ _ xs) = _
    rw [comp_t xs]
    cases h : p x with
    | true => rw [if_pos rfl, List.filter_cons_of_pos h]; rfl
    | false => rw [if_neg (by decide), List.filter_cons_of_neg (by rw [h]; decide)]
theorem comp_tt {p : β → Bool} {f : β → γ} {xs : List β} (h : xs.length ≤ szl) : Pl.comp (fun x => some (p x)) (fun x => some (f x)) xs = some ((xs.filter p).map f) := by
  unfold Pl.comp
  rw [if_pos h, comp_t]
theorem filt_true {xs : List β} : xs.filter (fun _ => true) = xs := List.filter_eq_self.mpr fun _ _ => rfl
theorem comp_m {f : β → γ} {xs : List β} (h : xs.length ≤ szl) : Pl.comp (fun _ => some true) (fun x => some (f x)) xs = some (xs.map f) := by
  rw [comp_tt (p := fun _ => true) h, filt_true]
/-- .. whose tests and elements are told of the members -/
theorem cmp_e {t : β → Option Bool} {g : β → Option γ} {p : β → Bool} {f : β → γ} : ∀ {xs : List β}, (∀ x ∈ xs, t x = some (p x) ∧ (p x = true → g x = some (f x))) → Pl.cmp t g xs = some ((xs.filter p).map f)
  | [], _ => rfl
  | x :: xs, h => by
    obtain ⟨h1, h2⟩ := h x List.mem_cons_self
    have ih := cmp_e (xs := xs) fun y hy => h y (List.mem_cons_of_mem _ hy)
    rw [Pl.cmp, h1]
    show (if p x = true then (g x).bind fun y => (Pl.cmp t g xs).bind fun ys => some (y :: ys) else Pl.cmp t g xs) = _
    rw [ih]
    cases hp : p x with
    | true => rw [if_pos rfl, List.filter_cons_of_pos hp, h2 hp]; rfl
    | false => rw [if_neg (by decide), List.filter_cons_of_neg (by rw [hp]; decide)]
theorem comp_e {t : β → Option Bool} {g : β → Option γ} {xs : List β} (p : β → Bool) (f : β → γ) (hl : xs.length ≤ szl) (h : ∀ x ∈ xs, t x = some (p x) ∧ (p x = true → g x = some (f x))) : Pl.comp t g xs = some ((xs.filter p).map f) := by
  unfold Pl.comp
  rw [if_pos hl, cmp_e h]
theorem comp_em {g : β → Option γ} {xs : List β} (f : β → γ) (hl : xs.length ≤ szl) (h : ∀ x ∈ xs, g x = some (f x)) : Pl.comp (fun _ => some true) g xs = some (xs.map f) := by
  rw [comp_e (fun _ => true) f hl fun x hx => ⟨rfl, fun _ => h x hx⟩, filt_true]
theorem app_t {xs : List β} {x : β} (h : xs.length < szl) : Pl.app xs x = some (xs ++ [x]) := if_pos h
theorem cat_t {xs ys : List β} (h : xs.length + ys.length < szl) : Pl.cat xs ys = some (xs ++ ys) := if_pos h
theorem mul_t {i j : Int} {n m : Nat} (hi : Smn n i) (hj : Smn m j) (hn : n ≤ bigN) (hm : m ≤ bigN) : Pl.mul i j = some (i * j) := if_pos ⟨hi.up hn, hj.up hm⟩
theorem mul64 {i j : Int} (hi : -9223372036854775808 ≤ i ∧ i ≤ 9223372036854775807) (hj : -9223372036854775808 ≤ j ∧ j ≤ 9223372036854775807) : Pl.mul i j = some (i * j) := mul_t (Smn.of hi) (Smn.of hj) (by decide) (by decide)
theorem div64 {i j : Int} (h : 0 < j) (hj : j ≤ 9223372036854775807) : Pl.div i j = some (i / j) := if_pos ⟨h, (Smn.of ⟨by omega, hj⟩).up (by decide)⟩
theorem mod_t {i j : Int} (h : 0 < j) : Pl.mod i j = some (i % j) := if_pos h
theorem at_t {xs : List β} {i : Int} {n : Nat} {x : β} (hi : i = (n : Int)) (h : xs[n]? = some x) : Pl.at_ xs i = some x := by
  subst hi
  exact atI_nat h
theorem at_in {xs : List β} {i : Int} (h0 : 0 ≤ i) (h : i < xs.length) : ∃ x, xs[i.toNat]? = some x ∧ Pl.at_ xs i = some x := by
  have hl : i.toNat < xs.length := by omega
  exact ⟨_, List.getElem?_eq_getElem hl, at_t (n := i.toNat) (by omega) (List.getElem?_eq_getElem hl)⟩
theorem at_last {xs : List β} {x : β} : Pl.at_ (xs ++ [x]) (-1) = some x := by
  have e : ixN (xs ++ [x]).length (-1) = some xs.length := by
    unfold ixN
    rw [if_neg (by decide), List.length_append, List.length_singleton, if_pos (by omega)]
    congr 1
    omega
  unfold Pl.at_ atI
  rw [e]
  show (xs ++ [x])[xs.length]? = _
  rw [List.getElem?_append_right (Nat.le_refl _), Nat.sub_self]
  rfl
theorem pop_t {xs : List β} {x : β} : Pl.pop (xs ++ [x]) = some (x, xs) := by
  unfold Pl.pop
  rw [List.getLast?_concat]
  simp
theorem andO_t {p q : Bool} : Pl.andO p (some q) = some (p && q) := by cases p <;> rfl
theorem orO_t {p q : Bool} : Pl.orO p (some q) = some (p || q) := by cases p <;> rfl
/-- lists in strict order with the same members -/
theorem eq_of_lt : ∀ {xs ys : List Int}, xs.Pairwise (· < ·) → ys.Pairwise (· < ·) → (∀ n, n ∈ xs ↔ n ∈ ys) → xs = ys
  | [], [], _, _, _ => rfl
  | [], y :: ys, _, _, h => by have := (h y).mpr List.mem_cons_self; cases this
  | x :: xs, [], _, _, h => by have := (h x).mp List.mem_cons_self; cases this
  | x :: xs, y :: ys, hx, hy, h => by
    rw [List.pairwise_cons] at hx hy
    have hxy : x = y := by
      rcases List.mem_cons.mp ((h x).mp List.mem_cons_self) with e | e
      · exact e
      · rcases List.mem_cons.mp ((h y).mpr List.mem_cons_self) with e2 | e2
        · exact e2.symm
        · have h1 := hy.1 x e
          have h2 := hx.1 y e2
          omega
    subst hxy
    rw [eq_of_lt hx.2 hy.2 fun n => ?_]
    constructor
    · intro hn
      rcases List.mem_cons.mp ((h n).mp (List.mem_cons_of_mem _ hn)) with e | e
      · subst e
        have := hx.1 n hn
        omega
      · exact e
    · intro hn
      rcases List.mem_cons.mp ((h n).mpr (List.mem_cons_of_mem _ hn)) with e | e
      · subst e
        have := hy.1 n hn
        omega
      · exact e
theorem rng_snoc {a b : Int} (h : a ≤ b) : Pl.rng a (b + 1) = Pl.rng a b ++ [b] := by
  unfold Pl.rng
  have e : (b + 1 - a).toNat = (b - a).toNat + 1 := by omega
  rw [e, List.range_succ, List.map_append, List.map_singleton]
  congr 2
  omega
theorem maxL_spec : ∀ {xs : List Int}, xs ≠ [] → ∃ m, F.maxL xs = some m ∧ m ∈ xs ∧ ∀ x ∈ xs, x ≤ m
  | [], h => absurd rfl h
  | x :: xs, _ => by
    have key : ∀ (ys : List Int) (a : Int), (ys.foldl (fun a b => if a < b then b else a) a ∈ a :: ys) ∧ ∀ y ∈ a :: ys, y ≤ ys.foldl (fun a b => if a < b then b else a) a := by
      intro ys
      induction ys with
      | nil => intro a; exact ⟨List.mem_singleton.mpr rfl, fun y hy => by rw [List.mem_singleton.mp hy]; exact Int.le_refl _⟩
      | cons b ys ih =>
        intro a
        rw [List.foldl_cons]
        obtain ⟨h1, h2⟩ := ih (if a < b then b else a)
        constructor
        · rcases List.mem_cons.mp h1 with e | e
          · rw [e]
            split
            · exact List.mem_cons_of_mem _ List.mem_cons_self
            · exact List.mem_cons_self
          · exact List.mem_cons_of_mem _ (List.mem_cons_of_mem _ e)
        · intro y hy
          have h3 := h2 _ List.mem_cons_self
          rcases List.mem_cons.mp hy with e | hy
          · rw [e]; exact Int.le_trans (by split <;> omega) h3
          · rcases List.mem_cons.mp hy with e | hy
            · rw [e]; exact Int.le_trans (by split <;> omega) h3
            · exact h2 y (List.mem_cons_of_mem _ hy)
    exact ⟨_, rfl, (key xs x).1, (key xs x).2⟩
theorem minL_spec : ∀ {xs : List Int}, xs ≠ [] → ∃ m, F.minL xs = some m ∧ m ∈ xs ∧ ∀ x ∈ xs, m ≤ x
  | [], h => absurd rfl h
  | x :: xs, _ => by
    have key : ∀ (ys : List Int) (a : Int), (ys.foldl (fun a b => if b < a then b else a) a ∈ a :: ys) ∧ ∀ y ∈ a :: ys, ys.foldl (fun a b => if b < a then b else a) a ≤ y := by
      intro ys
      induction ys with
      | nil => intro a; exact ⟨List.mem_singleton.mpr rfl, fun y hy => by rw [List.mem_singleton.mp hy]; exact Int.le_refl _⟩
      | cons b ys ih =>
        intro a
        rw [List.foldl_cons]
        obtain ⟨h1, h2⟩ := ih (if b < a then b else a)
        constructor
        · rcases List.mem_cons.mp h1 with e | e
          · rw [e]
            split
            · exact List.mem_cons_of_mem _ List.mem_cons_self
            · exact List.mem_cons_self
          · exact List.mem_cons_of_mem _ (List.mem_cons_of_mem _ e)
        · intro y hy
          have h3 := h2 _ List.mem_cons_self
          rcases List.mem_cons.mp hy with e | hy
          · rw [e]; exact Int.le_trans h3 (by split <;> omega)
          · rcases List.mem_cons.mp hy with e | hy
            · rw [e]; exact Int.le_trans h3 (by split <;> omega)
            · exact h2 y (List.mem_cons_of_mem _ hy)
    exact ⟨_, rfl, (key xs x).1, (key xs x).2⟩
theorem max_is {xs : List Int} {m : Int} (h : m ∈ xs) (g : ∀ x ∈ xs, x ≤ m) : F.maxL xs = some m := by
  obtain ⟨k, e, h1, h2⟩ := maxL_spec (List.ne_nil_of_mem h)
  have a := h2 m h
  have b := g k h1
  rw [e, show k = m by omega]
theorem min_is {xs : List Int} {m : Int} (h : m ∈ xs) (g : ∀ x ∈ xs, m ≤ x) : F.minL xs = some m := by
  obtain ⟨k, e, h1, h2⟩ := minL_spec (List.ne_nil_of_mem h)
  have a := h2 m h
  have b := g k h1
  rw [e, show k = m by omega]
/-- one alone -/
theorem one_of {p : β → Bool} : ∀ {xs : List β}, xs.Pairwise (fun a b => ¬ (p a = true ∧ p b = true)) → (∃ x ∈ xs, p x = true) → (xs.filter p).length = 1
  | [], _, ⟨_, h, _⟩ => nomatch h
  | x :: xs, hp, ⟨y, hy, py⟩ => by
    rw [List.pairwise_cons] at hp
    cases h : p x with
    | true =>
      rw [List.filter_cons_of_pos h, List.filter_eq_nil_iff.mpr fun z hz pz => hp.1 z hz ⟨h, pz⟩]
      rfl
    | false =>
      rw [List.filter_cons_of_neg (by rw [h]; decide)]
      rcases List.mem_cons.mp hy with e | e
      · rw [e, h] at py; cases py
      · exact one_of hp.2 ⟨y, e, py⟩
end
end Mi

set_option Elab.async false
set_option linter.all false
set_option maxRecDepth 100000
/-! Mi, part Da: dicts in plain terms; n in range(k); len of a dict. -/
namespace Mi
open PySem PySem.Spec PyProof.Rows L2
section
variable {X : Cx} {Tb : Tbs}
/-! ### n in range(k) -/
theorem cr_range1 : CallR X (.type "range") (fun vs H Q => ∃ i, vs = [V.int i] ∧ ∀ p, H p = none → Q (.ref p) (upd H p (.rng 0 i))) := by
  intro pins s σ H vs us Q I r h
  obtain ⟨i, rfl, q⟩ := h
  obtain ⟨u1, rfl, ri⟩ := vals1 r
  obtain ⟨t, rfl⟩ := ri
  refine call_range_1 ⟨.ref s.heap.objs.size, upd H s.heap.objs.size (.rng 0 i), I.laid (t' := s.toks + 1 + 1) (fun b o e => Heap.get?_push_of_some _ e) (Nat.le_refl _) ?_, rfl, q _ (I.hok.fresh (Nat.le_refl _))⟩
  exact ⟨s.toks, t, s.toks + 1, Heap.get?_push_size _ rfl⟩
def O.inR (x y : D) (_ : Z) : Option D := match x, y with
  | .int i, .int n => some (.bl (decide (0 ≤ i ∧ i < n)))
  | _, _ => none
def rIR : R2 := fun x y H Q => ∃ i n, x = V.int i ∧ y = V.int n ∧ ∀ p, H p = none → Q (.bl (decide (0 ≤ i ∧ i < n))) (upd H p (.rng 0 n))
theorem rIR_ok {K : Kx} : OpV K rIR O.inR := by
  intro B F rho om z σ H x y xv yv d R rx ry e Q k
  unfold O.inR at e
  split at e
  · cases e
    obtain rfl := rv_int rx
    obtain rfl := rv_int ry
    exact ⟨_, _, rfl, rfl, fun p hp => k F _ _ (Same.refl F) (R.new hp).1 (.pure (.bl _))⟩
  · cases e
theorem inR_go {K : Kx} {ma mb : M D} : ∀ σ H Q, Te K (E.op O.inR ma mb) σ H Q → tOp (fun x y H Q => ∃ i a lo hi, x = V.int i ∧ y = V.ref a ∧ H a = some (.rng lo hi) ∧ Q (.bl (decide (lo ≤ i ∧ i < hi))) H) (Te K ma) (tCB (fun vs H Q => ∃ i, vs = [V.int i] ∧ ∀ p, H p = none → Q (.ref p) (upd H p (.rng 0 i))) (tCons (Te K mb) tNil)) σ H Q := by
  intro σ H Q h
  exact Tx.mono (op_go rIR_ok σ H Q h) fun x H1 h1 => Tx.mono h1 fun y H2 ⟨i, n, h2, h3, q⟩ => ⟨n, by rw [h3], fun p hp => ⟨i, p, 0, n, h2, rfl, upd_same, q p hp⟩⟩
theorem me_inR {a e : Expr} {x : Str} {p p2 pos : Pos} {ma mb : M D} (ha : PE X a (Te (kx X Tb) ma)) (hb : PE X e (Te (kx X Tb) mb)) (hg : Gl X x) (hm : X.mg x = none) (hv : bootBuiltins x = some (.type "range")) (hn : x ≠ "__name__" := by decide) (hdb : (x == ("__debug__" : Str)) = false := by decide)
    (he : starEach [e] X.env = (false, eval e X.env) :: starEach [] X.env := by rfl) (hpl : (backTo p2 (starEach [] X.env)).any (·.1) = false := by rfl) (hk : behindInMarks .In (.Call (.Name x p) [e] [] p2) = false := by rfl) :
    PE X (.Compare a [.In] [.Call (.Name x p) [e] [] p2] pos) (Te (kx X Tb) (E.op O.inR ma mb)) :=
  pe_imp (pe_cmpR op_in_rng ha (pe_callTy cr_range1 hg hm hv (pa_cons hb pa_nil he) hn hdb he hpl) hk) inR_go
theorem mt_inR {a e : Expr} {x : Str} {p p2 pos : Pos} {ma mb : M D} (ha : PE X a (Te (kx X Tb) ma)) (hb : PE X e (Te (kx X Tb) mb)) (hg : Gl X x) (hm : X.mg x = none) (hv : bootBuiltins x = some (.type "range")) (hn : x ≠ "__name__" := by decide) (hdb : (x == ("__debug__" : Str)) = false := by decide)
    (he : starEach [e] X.env = (false, eval e X.env) :: starEach [] X.env := by rfl) (hpl : (backTo p2 (starEach [] X.env)).any (·.1) = false := by rfl) (hk : behindInMarks .In (.Call (.Name x p) [e] [] p2) = false := by rfl) :
    PT X (.Compare a [.In] [.Call (.Name x p) [e] [] p2] pos) (Tt (kx X Tb) (T.val (E.op O.inR ma mb))) :=
  pt_imp (pt_cmpR op_in_rng ha (pe_callTy cr_range1 hg hm hv (pa_cons hb pa_nil he) hn hdb he hpl) hk) (tv_go inR_go)
/-! ### len of a dict -/
def F.lenD : List D → Z → Option D
  | [x], z => match dcont x z with
    | some (.dk kvs) => some (.int kvs.length)
    | some (.dt kvs) => some (.int kvs.length)
    | _ => none
  | _, _ => none
theorem call_lenD : CallR X (.builtin "len") (fun xs H Q => ∃ p n, xs = [V.ref p] ∧ ((∃ kvs, Rd H p (.dK kvs) ∧ n = kvs.length) ∨ ∃ kvs, Rd H p (.dT kvs) ∧ n = kvs.length) ∧ Q (.int ((n : Nat) : Int)) H) := by
  intro pins s σ H xs us Q I r h
  obtain ⟨p, n, rfl, h, q⟩ := h
  obtain ⟨u, rfl, rx⟩ := vals1 r
  obtain rfl : u = .ref p := rx
  rcases h with ⟨kvs, h, rfl⟩ | ⟨kvs, h, rfl⟩
  · exact d_len I h fun t s' I' => ⟨.int _, H, I', ⟨_, rfl⟩, q⟩
  · obtain ⟨z, hd, ys, rel, dd⟩ := dt_rd I.hok h
    have hl : kvs.length = ys.length := Paired.length rel
    refine call_len_dictH hd dd (by rw [← hl]; rw [sizeLine_eq] at z; omega) ?_
    rw [← hl]
    exact ⟨.int ((kvs.length : Nat) : Int), H, I.tok _, ⟨_, rfl⟩, q⟩
theorem f_lenD : CallM X (.builtin "len") F.lenD := by
  refine ⟨_, call_lenD, ?_⟩
  intro Tb B F rho om z σ H xs vs d R r e Q k
  unfold Mi.F.lenD at e
  split at e
  · obtain ⟨v, rfl, rv⟩ := rvs1 r
    split at e
    · rename_i kvs hc
      cases e
      obtain ⟨a, rfl, ⟨kv2, es, e1, h, q⟩ | ⟨kv2, es, e1, h, q⟩⟩ := dcont_ok R rv hc
      · cases e1
        refine ⟨a, _, rfl, .inl ⟨es, h, rfl⟩, ?_⟩
        rw [q.length]
        exact k F H _ (Same.refl F) R (.pure (.int _))
      · cases e1
    · rename_i kvs hc
      cases e
      obtain ⟨a, rfl, ⟨kv2, es, e1, h, q⟩ | ⟨kv2, es, e1, h, q⟩⟩ := dcont_ok R rv hc
      · cases e1
      · cases e1
        refine ⟨a, _, rfl, .inr ⟨es, h, rfl⟩, ?_⟩
        rw [q.length]
        exact k F H _ (Same.refl F) R (.pure (.int _))
    · cases e
  · cases e
end
theorem lookup_notK {f : Str} {fs : List (Str × D)} {ks : List Str} (hk : fs.map Prod.fst = ks) (h : ks.contains f = false) : (fs.lookup f).isNone = true := lookup_not (by rw [hk]; exact h)
/-! ### dicts by plain keys -/
structure KEnc (κ : Type) where
  k : κ → Key
  inj : ∀ a b, k a = k b → a = b
structure TEnc (κ : Type) where
  k : κ → List Key
  inj : ∀ a b, k a = k b → a = b
def yI : KEnc Int := ⟨.inl, fun _ _ h => Sum.inl.inj h⟩
def yS : KEnc Str := ⟨.inr, fun _ _ h => Sum.inr.inj h⟩
section
variable {α β γ δ κ : Type}
def y2 (a : KEnc α) (b : KEnc β) : TEnc (α × β) := ⟨fun p => [a.k p.1, b.k p.2], fun p q h => by
  rw [List.cons.injEq, List.cons.injEq] at h
  exact Prod.ext (a.inj _ _ h.1) (b.inj _ _ h.2.1)⟩
def y3 (a : KEnc α) (b : KEnc β) (c : KEnc γ) : TEnc (α × β × γ) := ⟨fun p => [a.k p.1, b.k p.2.1, c.k p.2.2], fun p q h => by
  rw [List.cons.injEq, List.cons.injEq, List.cons.injEq] at h
  exact Prod.ext (a.inj _ _ h.1) (Prod.ext (b.inj _ _ h.2.1) (c.inj _ _ h.2.2.1))⟩
def y4 (a : KEnc α) (b : KEnc β) (c : KEnc γ) (d : KEnc δ) : TEnc (α × β × γ × δ) := ⟨fun p => [a.k p.1, b.k p.2.1, c.k p.2.2.1, d.k p.2.2.2], fun p q h => by
  rw [List.cons.injEq, List.cons.injEq, List.cons.injEq, List.cons.injEq] at h
  exact Prod.ext (a.inj _ _ h.1) (Prod.ext (b.inj _ _ h.2.1) (Prod.ext (c.inj _ _ h.2.2.1) (d.inj _ _ h.2.2.2.1)))⟩
@[reducible] def eK (y : KEnc κ) (e : α → D) (kvs : List (κ × α)) : D := .dk (kvs.map fun kv => (y.k kv.1, e kv.2))
@[reducible] def eT (y : TEnc κ) (e : α → D) (kvs : List (κ × α)) : D := .dt (kvs.map fun kv => (y.k kv.1, e kv.2))
namespace Pl
variable [DecidableEq κ]
def dput (kvs : List (κ × α)) (k : κ) (v : α) : Option (List (κ × α)) := if kvs.length < szl then some (putG kvs k v) else none
end Pl
variable [DecidableEq κ]
theorem getG_map {κ' : Type} [DecidableEq κ'] {f : κ → κ'} (hf : ∀ a b, f a = f b → a = b) (e : α → β) (k : κ) : ∀ kvs : List (κ × α), getG (kvs.map fun kv => (f kv.1, e kv.2)) (f k) = (getG kvs k).map e
  | [] => rfl
  | kv :: kvs => by
    have ih := getG_map hf e k kvs
    unfold getG at ih ⊢
    rw [List.map_cons, List.find?_cons, List.find?_cons]
    by_cases h : kv.1 = k
    · rw [decide_eq_true h, decide_eq_true (show f kv.1 = f k from congrArg f h)]
      rfl
    · rw [decide_eq_false h, decide_eq_false (show ¬ f kv.1 = f k from fun e => h (hf _ _ e))]
      exact ih
theorem putG_map {κ' : Type} [DecidableEq κ'] {f : κ → κ'} (hf : ∀ a b, f a = f b → a = b) (e : α → β) (k : κ) (v : α) (kvs : List (κ × α)) : putG (kvs.map fun kv => (f kv.1, e kv.2)) (f k) (e v) = (putG kvs k v).map fun kv => (f kv.1, e kv.2) := by
  have hd : ∀ a : κ, decide (f a = f k) = decide (a = k) := fun a => by
    by_cases h : a = k
    · rw [decide_eq_true h, decide_eq_true (congrArg f h)]
    · rw [decide_eq_false h, decide_eq_false (fun e => h (hf _ _ e))]
  unfold putG
  have ha : ((kvs.map fun kv => (f kv.1, e kv.2)).any fun kv => decide (kv.1 = f k)) = kvs.any fun kv => decide (kv.1 = k) := by
    rw [List.any_map]
    congr 1
    funext kv
    exact hd kv.1
  rw [ha]
  split
  · rw [List.map_map, List.map_map]
    apply List.map_congr_left
    intro kv _
    simp only [Function.comp]
    by_cases h : kv.1 = k
    · rw [if_pos h, if_pos (congrArg f h)]
    · rw [if_neg h, if_neg (fun e => h (hf _ _ e))]
  · rw [List.map_append]
    rfl
theorem dgT {y : TEnc κ} {e : α → D} {kvs : List (κ × α)} {x : D} {k : κ} (h : keyT x = some (y.k k)) : dgetC (eT y e kvs) x = some ((getG kvs k).map e) := by
  unfold dgetC
  dsimp only
  rw [h]
  dsimp only
  rw [getG_map y.inj]
theorem dgK {y : KEnc κ} {e : α → D} {kvs : List (κ × α)} {x : D} {k : κ} (h : keyD x = some (y.k k)) : dgetC (eK y e kvs) x = some ((getG kvs k).map e) := by
  unfold dgetC
  dsimp only
  rw [h]
  dsimp only
  rw [getG_map y.inj]
theorem dpT {y : TEnc κ} {e : α → D} {kvs r : List (κ × α)} {x : D} {k : κ} {v : α} (h : keyT x = some (y.k k)) (hr : Pl.dput kvs k v = some r) : dputC (eT y e kvs) x (e v) = some (eT y e r) := by
  unfold Pl.dput at hr
  unfold dputC
  dsimp only
  rw [h]
  dsimp only
  rw [List.length_map]
  split at hr
  · rename_i c
    cases hr
    rw [if_pos c, putG_map y.inj]
  · cases hr
theorem dpK {y : KEnc κ} {e : α → D} {kvs r : List (κ × α)} {x : D} {k : κ} {v : α} (h : keyD x = some (y.k k)) (hr : Pl.dput kvs k v = some r) : dputC (eK y e kvs) x (e v) = some (eK y e r) := by
  unfold Pl.dput at hr
  unfold dputC
  dsimp only
  rw [h]
  dsimp only
  rw [List.length_map]
  split at hr
  · rename_i c
    cases hr
    rw [if_pos c, putG_map y.inj]
  · cases hr
end
section
variable {α β γ σ ρ κ : Type} {o : Option α} {m a b c : M D} {rest : C} {x y w cc : D} {z z1 z2 z3 : Z} {s s' : List Sl} {h : List D} {Φ : α → Fl → Z → Prop} [DecidableEq κ]
theorem ev_dinP {kvs : List (κ × β)} {k : κ} {e : β → D} (h1 : a z = some (x, z1)) (h2 : b z1 = some (y, z2)) (h3 : dcont y z2 = some cc) (hg : dgetC cc x = some ((getG kvs k).map e)) : E.op O.din a b z = some (.bl (getG kvs k).isSome, z2) := by
  rw [ev_din h1 h2 h3 hg, Option.isSome_map]
theorem ev_dnotInP {kvs : List (κ × β)} {k : κ} {e : β → D} (h1 : a z = some (x, z1)) (h2 : b z1 = some (y, z2)) (h3 : dcont y z2 = some cc) (hg : dgetC cc x = some ((getG kvs k).map e)) : E.op O.dnotIn a b z = some (.bl (!(getG kvs k).isSome), z2) := by
  rw [ev_dnotIn h1 h2 h3 hg, Option.isSome_map]
theorem ev_dixP {kvs : List (κ × β)} {k : κ} {e : β → D} {r : β} (h1 : a z = some (x, z1)) (h2 : b z1 = some (y, z2)) (h3 : dcont x z2 = some cc) (hg : dgetC cc y = some ((getG kvs k).map e)) (hr : getG kvs k = some r) : E.op O.dix a b z = some (e r, z2) :=
  ev_dix h1 h2 h3 (by rw [hg, hr]; rfl)
theorem ev_get1P {kvs : List (κ × β)} {k : κ} {e : β → D} (h1 : a z = some (x, z1)) (h0 : (dcont x z1).isSome = true) (h2 : b z1 = some (y, z2)) (h3 : dcont x z2 = some cc) (hg : dgetC cc y = some ((getG kvs k).map e)) : E.get1 a b z = some (eO e (getG kvs k), z2) := by
  rw [ev_get1 h1 h0 h2 h3 hg]
  cases getG kvs k <;> rfl
theorem ev_get2P {kvs : List (κ × β)} {k : κ} {e : β → D} {v : β} (h1 : a z = some (x, z1)) (h0 : (dcont x z1).isSome = true) (h2 : b z1 = some (y, z2)) (h5 : c z2 = some (e v, z3)) (hw : isPure (e v) = true) (h3 : dcont x z3 = some cc) (hg : dgetC cc y = some ((getG kvs k).map e)) : E.get2 a b c z = some (e ((getG kvs k).getD v), z3) := by
  rw [ev_get2 h1 h0 h2 h5 hw h3 hg]
  cases getG kvs k <;> rfl
theorem ev_inR {i n : Int} (h1 : a z = some (.int i, z1)) (h2 : b z1 = some (.int n, z2)) : E.op O.inR a b z = some (.bl (decide (0 ≤ i ∧ i < n)), z2) := ev_op h1 h2 rfl
theorem F_lenT {y : TEnc κ} {e : β → D} {kvs : List (κ × β)} (hc : dcont x z = some (eT y e kvs)) : F.lenD [x] z = some (.int kvs.length) := by
  unfold F.lenD
  dsimp only
  rw [hc]
  simp
theorem F_lenK {y : KEnc κ} {e : β → D} {kvs : List (κ × β)} (hc : dcont x z = some (eK y e kvs)) : F.lenD [x] z = some (.int kvs.length) := by
  unfold F.lenD
  dsimp only
  rw [hc]
  simp
/-- d = {} -/
theorem Rf.ownD {i : Nat} {d : D} (he : m z = some (d, ⟨s, h⟩)) (hn : i < s.length) (hs : s.set i (.own d) = s') (k : Rf o rest ⟨s', h⟩ Φ) : Rf o (C.seq (C.ownN i m) rest) z Φ := k.nx (cs_ownD he hn hs)
theorem Rf.frzD {i : Nat} {d : D} (h1 : s[i]? = some (.own d)) (hd : C.isDict d = true) (hs : s.set i (.val d) = s') (k : Rf o rest ⟨s', h⟩ Φ) : Rf o (C.seq (C.frzD i) rest) ⟨s, h⟩ Φ := k.nx (cs_frzD h1 hd hs)
/-- d[k] = v -/
theorem Rf.dputT {n : Nat} {Y : TEnc κ} {kvs : List (κ × β)} {k0 : κ} {v : β} {K : List (κ × β) → Option α} (e : β → D) (he : m z = some (e v, z1)) (ha : a z1 = some (.own n, z2)) (hb : b z2 = some (y, ⟨s, h⟩)) (hn : s[n]? = some (.own (eT Y e kvs))) (hk : keyT y = some (Y.k k0)) (hp : isPure (e v) = true) {s' : List (κ × β) → List Sl} (hs : ∀ r, s.set n (.own (eT Y e r)) = s' r)
    (k : ∀ r, Rf (K r) rest ⟨s' r, h⟩ Φ) : Rf ((Pl.dput kvs k0 v).bind K) (C.seq (C.dput a b m) rest) z Φ := Rf.bd fun r hr =>
  (k r).nx (cs_dputO he ha hb hn (dpT hk hr) hp (hs r))
theorem Rf.dputK {n : Nat} {Y : KEnc κ} {kvs : List (κ × β)} {k0 : κ} {v : β} {K : List (κ × β) → Option α} (e : β → D) (he : m z = some (e v, z1)) (ha : a z1 = some (.own n, z2)) (hb : b z2 = some (y, ⟨s, h⟩)) (hn : s[n]? = some (.own (eK Y e kvs))) (hk : keyD y = some (Y.k k0)) (hp : isPure (e v) = true) {s' : List (κ × β) → List Sl} (hs : ∀ r, s.set n (.own (eK Y e r)) = s' r)
    (k : ∀ r, Rf (K r) rest ⟨s' r, h⟩ Φ) : Rf ((Pl.dput kvs k0 v).bind K) (C.seq (C.dput a b m) rest) z Φ := Rf.bd fun r hr =>
  (k r).nx (cs_dputO he ha hb hn (dpK hk hr) hp (hs r))
theorem Rf.retD {n : Nat} {d : D} {r : α} (he : m z = some (.own n, ⟨s, h⟩)) (hn : s[n]? = some (.own d)) (hd : C.isDict d = true) (q : Φ r (.rt d) ⟨s.set n .no, h⟩) : Rf (some r) (C.seq (C.retD m) rest) z Φ := fun r' e => by
  cases e
  exact ⟨_, _, cs_rt (cs_retD he hn hd), q⟩
theorem dc_own {n : Nat} {Y : TEnc κ} {e : β → D} {kvs : List (κ × β)} (hn : z.s[n]? = some (.own (eT Y e kvs))) : dcont (.own n) z = some (eT Y e kvs) := by
  unfold dcont
  dsimp only
  rw [hn]
theorem dc_ownK {n : Nat} {Y : KEnc κ} {e : β → D} {kvs : List (κ × β)} (hn : z.s[n]? = some (.own (eK Y e kvs))) : dcont (.own n) z = some (eK Y e kvs) := by
  unfold dcont
  dsimp only
  rw [hn]
theorem cutL_map {xs : List β} {e : β → D} {lo hi : Option Int} : N.cutL (xs.map e) lo hi = (N.cutL xs lo hi).map e := by
  unfold N.cutL
  rw [List.length_map, List.map_take, List.map_drop]
theorem ev_sliceP {lo hi : Option (M D)} {l u : Option Int} {xs : List β} {e : β → D} (h1 : a z = some (x, z1)) (h2 : N.part lo z1 = some (l, z2)) (h3 : N.part hi z2 = some (u, z3)) (h4 : cont x z3 = some (false, xs.map e)) : N.slice a lo hi z = some ((N.cutL xs l u).map e, z3) := by
  rw [ev_slice h1 h2 h3 h4, cutL_map]
end
end Mi

set_option Elab.async false
set_option linter.all false
set_option maxRecDepth 100000
namespace W
open PySem L2 Mi
noncomputable section
def top (i : Nat) : Stmt := PySem.Challenge.pw_footpath_k06_extents.main.body.getD i (.Pass ⟨0, 0, 0, 0⟩)
abbrev s_law_state : Stmt := top 11
theorem sc_law_state : FnScope ["_law_script", "_law_seed", "_law_cell"] ["_law_script"] (defScope s_law_state) := ⟨rfl, rfl, rfl, by decide +kernel, rfl, by decide +kernel, by decide +kernel⟩
abbrev s_law_draw : Stmt := top 12
theorem sc_law_draw : FnScope ["_law_state_here", "_law_many", "_law_cells", "_law_value", "_law_mixed"] ["_law_state_here", "_law_many"] (defScope s_law_draw) := ⟨rfl, rfl, rfl, by decide +kernel, rfl, by decide +kernel, by decide +kernel⟩
abbrev s_law_number : Stmt := top 18
theorem sc_law_number : FnScope ["_law_state_here", "_law_most"] ["_law_state_here", "_law_most"] (defScope s_law_number) := ⟨rfl, rfl, rfl, by decide +kernel, rfl, by decide +kernel, by decide +kernel⟩
abbrev s_law_triangle : Stmt := top 19
theorem sc_law_triangle : FnScope ["_law_state_here", "_law_most", "_law_points", "_law_k", "_law_kind", "_law_x", "_law_y", "_law_z"] ["_law_state_here", "_law_most"] (defScope s_law_triangle) := ⟨rfl, rfl, rfl, by decide +kernel, rfl, by decide +kernel, by decide +kernel⟩
abbrev s_law_beyond : Stmt := top 13
theorem sc_law_beyond : FnScope ["_law_point", "_law_axis", "_law_sign", "_law_at"] ["_law_point", "_law_axis", "_law_sign", "_law_at"] (defScope s_law_beyond) := ⟨rfl, rfl, rfl, by decide +kernel, rfl, by decide +kernel, by decide +kernel⟩
abbrev s_law_cut : Stmt := top 14
theorem sc_law_cut : FnScope ["_law_one", "_law_other", "_law_axis", "_law_sign", "_law_at", "_law_a", "_law_b", "_law_k"] ["_law_one", "_law_other", "_law_axis", "_law_sign", "_law_at"] (defScope s_law_cut) := ⟨rfl, rfl, rfl, by decide +kernel, rfl, by decide +kernel, by decide +kernel⟩
abbrev s_law_clip : Stmt := top 15
theorem sc_law_clip : FnScope ["_law_shape", "_law_axis", "_law_sign", "_law_at", "_law_found", "_law_k", "_law_one", "_law_other", "_law_first", "_law_second"] ["_law_shape", "_law_axis", "_law_sign", "_law_at"] (defScope s_law_clip) := ⟨rfl, rfl, rfl, by decide +kernel, rfl, by decide +kernel, by decide +kernel⟩
abbrev s_law_over : Stmt := top 16
theorem sc_law_over : FnScope ["_law_triangle_here", "_law_x0", "_law_z0", "_law_x1", "_law_z1", "_law_shape", "_law_x", "_law_y", "_law_z", "_law_axis", "_law_sign", "_law_at"] ["_law_triangle_here", "_law_x0", "_law_z0", "_law_x1", "_law_z1"] (defScope s_law_over) := ⟨rfl, rfl, rfl, by decide +kernel, rfl, by decide +kernel, by decide +kernel⟩
abbrev s_law_extent : Stmt := top 17
theorem sc_law_extent : FnScope ["_law_triangle_here", "_law_x0", "_law_z0", "_law_x1", "_law_z1", "_law_shape", "_law_low", "_law_high", "_law_point"] ["_law_triangle_here", "_law_x0", "_law_z0", "_law_x1", "_law_z1"] (defScope s_law_extent) := ⟨rfl, rfl, rfl, by decide +kernel, rfl, by decide +kernel, by decide +kernel⟩
abbrev s_minus : Stmt := top 1
theorem sc_minus : FnScope ["p", "q"] ["p", "q"] (defScope s_minus) := ⟨rfl, rfl, rfl, by decide +kernel, rfl, by decide +kernel, by decide +kernel⟩
abbrev s_normal : Stmt := top 2
theorem sc_normal : FnScope ["triangle", "u", "v"] ["triangle"] (defScope s_normal) := ⟨rfl, rfl, rfl, by decide +kernel, rfl, by decide +kernel, by decide +kernel⟩
abbrev s_positive : Stmt := top 4
theorem sc_positive : FnScope ["number", "den"] ["number", "den"] (defScope s_positive) := ⟨rfl, rfl, rfl, by decide +kernel, rfl, by decide +kernel, by decide +kernel⟩
abbrev s_on_edge : Stmt := top 5
theorem sc_on_edge : FnScope ["p", "q", "axis", "at", "low", "high", "den", "way", "across"] ["p", "q", "axis", "at", "low", "high"] (defScope s_on_edge) := ⟨rfl, rfl, rfl, by decide +kernel, rfl, by decide +kernel, by decide +kernel⟩
abbrev s_side : Stmt := top 6
theorem sc_side : FnScope ["p", "q", "x", "z"] ["p", "q", "x", "z"] (defScope s_side) := ⟨rfl, rfl, rfl, by decide +kernel, rfl, by decide +kernel, by decide +kernel⟩
abbrev s_at_corner : Stmt := top 7
theorem sc_at_corner : FnScope ["triangle", "up", "x", "z", "sides", "k", "p"] ["triangle", "up", "x", "z"] (defScope s_at_corner) := ⟨rfl, rfl, rfl, by decide +kernel, rfl, by decide +kernel, by decide +kernel⟩
abbrev s_heights : Stmt := top 8
theorem sc_heights : FnScope ["triangle", "x0", "z0", "x1", "z1", "found", "up", "k", "p", "q", "at", "x", "z", "height"] ["triangle", "x0", "z0", "x1", "z1"] (defScope s_heights) := ⟨rfl, rfl, rfl, by decide +kernel, rfl, by decide +kernel, by decide +kernel⟩
abbrev s_less : Stmt := top 3
theorem sc_less : FnScope ["one", "other"] ["one", "other"] (defScope s_less) := ⟨rfl, rfl, rfl, by decide +kernel, rfl, by decide +kernel, by decide +kernel⟩
abbrev s_extent : Stmt := top 9
theorem sc_extent : FnScope ["triangle", "x0", "z0", "x1", "z1", "found", "low", "high", "height"] ["triangle", "x0", "z0", "x1", "z1"] (defScope s_extent) := ⟨rfl, rfl, rfl, by decide +kernel, rfl, by decide +kernel, by decide +kernel⟩
abbrev s_law_same : Stmt := top 20
theorem sc_law_same : FnScope ["_law_one", "_law_other"] ["_law_one", "_law_other"] (defScope s_law_same) := ⟨rfl, rfl, rfl, by decide +kernel, rfl, by decide +kernel, by decide +kernel⟩
abbrev s_law : Stmt := top 21
theorem sc_law : FnScope ["_law_script", "_law_state_here", "_law_turn", "_law_most", "_law_triangle_here", "_law_x0", "_law_z0", "_law_x1", "_law_z1", "_law_due", "_law_told", "_law_one", "_law_other"] ["_law_script"] (defScope s_law) := ⟨rfl, rfl, rfl, by decide +kernel, rfl, by decide +kernel, by decide +kernel⟩
def lp_law_state1 : C := (C.set 1 (E.op O.mod (E.blt F.int1 [(E.op O.add (E.op O.mul (E.var 1) (E.c (.int 31))) (E.var 2))]) (E.c (.int 1000003))))
@[reducible] def st_law_state_3 : C := (C.ret (E.shr (N.disp [(E.shr (N.comp (I.seqC (E.var 0)) (G.nm 2) [2] (ret true) (E.blt F.abs [(E.var 2)]))), (E.op O.add (E.var 1) (E.c (.int 1)))])))
@[reducible] def st_law_state_2 : C := (C.for_ (I.seq (E.var 0)) (G.nm 2) lp_law_state1)
def b_law_state : C := (C.seq (C.set 1 (E.c (.int 7))) (C.seq st_law_state_2 st_law_state_3))
def m_law_state : Fn := fn 3 1 b_law_state
def lp_law_draw1 : C := (C.drop (E.chg U.popAt (E.var 2) [(E.c (.int 0))]))
@[reducible] def st_law_draw_6 : C := (C.ret (E.op O.mod (E.blt F.int1 [(E.op O.div (E.var 4) (E.c (.int 64)))]) (E.var 1)))
@[reducible] def st_law_draw_5 : C := (C.setIx (E.var 0) (E.c (.int 1)) (E.var 4))
@[reducible] def st_law_draw_4 : C := (C.set 4 (E.op O.mod (E.blt F.int1 [(E.op O.add (E.op O.mul (E.op O.ix (E.var 0) (E.c (.int 1))) (E.c (.int 48271))) (E.c (.int 12345)))]) (E.c (.int 2147483647))))
@[reducible] def st_law_draw_3 : C := (C.ite (T.val (E.op O.gt (E.blt F.len [(E.var 2)]) (E.c (.int 0)))) (C.seq (C.set 3 (E.op O.ix (E.var 2) (E.c (.int 0)))) (C.seq (C.setIx (E.var 2) (E.c (.int 0)) (E.op O.div (E.var 3) (E.var 1))) (C.ret (E.op O.mod (E.blt F.int1 [(E.var 3)]) (E.var 1))))) C.skip)
@[reducible] def st_law_draw_2 : C := (C.whl (T.and (T.val (E.op O.gt (E.blt F.len [(E.var 2)]) (E.c (.int 0)))) (T.val (E.op O.eq (E.op O.ix (E.var 2) (E.c (.int 0))) (E.c (.int 0))))) lp_law_draw1)
@[reducible] def st_law_draw_1 : C := (C.set 2 (E.op O.ix (E.var 0) (E.c (.int 0))))
def b_law_draw : C := (C.seq st_law_draw_1 (C.seq st_law_draw_2 (C.seq st_law_draw_3 (C.seq st_law_draw_4 (C.seq st_law_draw_5 st_law_draw_6)))))
def m_law_draw : Fn := fn 5 2 b_law_draw
@[reducible] def st_law_number_1 : C := (C.ret (E.op O.ix (E.frz (N.disp [(E.op O.mul (E.call m_law_draw [(E.var 0), (E.c (.int 5))]) (E.c (.int 4))), (E.call m_law_draw [(E.var 0), (E.var 1)]), (E.op O.sub (E.call m_law_draw [(E.var 0), (E.op O.mul (E.c (.int 3)) (E.var 1))]) (E.var 1))])) (E.call m_law_draw [(E.var 0), (E.c (.int 3))])))
def b_law_number : C := st_law_number_1
def m_law_number : Fn := fn 2 2 b_law_number
def lp_law_triangle1 : C := (C.drop (E.chg U.append (E.var 2) [(E.tup [(E.call m_law_number [(E.var 0), (E.var 1)]), (E.op O.sub (E.call m_law_draw [(E.var 0), (E.op O.mul (E.c (.int 2)) (E.var 1))]) (E.var 1)), (E.call m_law_number [(E.var 0), (E.var 1)])])]))
def cp_law_triangle2 : M (List D) := (N.comp (I.seqC (E.var 2)) (G.tp [(G.nm 5), (G.nm 6), (G.nm 7)]) [5, 6, 7] (ret true) (E.tup [(E.var 5), (E.var 6), (E.op O.ix (E.op O.ix (E.var 2) (E.c (.int 0))) (E.c (.int 2)))]))
@[reducible] def st_law_triangle_7 : C := (C.ret (E.blt F.tuple [(E.var 2)]))
@[reducible] def st_law_triangle_6 : C := (C.ite (T.val (E.op O.eq (E.var 4) (E.c (.int 2)))) (C.own 2 cp_law_triangle2) C.skip)
@[reducible] def st_law_triangle_5 : C := (C.ite (T.val (E.op O.eq (E.var 4) (E.c (.int 1)))) (C.setIx (E.var 2) (E.c (.int 1)) (E.op O.ix (E.var 2) (E.c (.int 0)))) C.skip)
@[reducible] def st_law_triangle_4 : C := (C.ite (T.val (E.op O.eq (E.var 4) (E.c (.int 0)))) (C.setIx (E.var 2) (E.c (.int 2)) (E.tup [(E.op O.ix (E.op O.ix (E.var 2) (E.c (.int 0))) (E.c (.int 0))), (E.op O.ix (E.op O.ix (E.var 2) (E.c (.int 2))) (E.c (.int 1))), (E.op O.ix (E.op O.ix (E.var 2) (E.c (.int 0))) (E.c (.int 2)))])) C.skip)
@[reducible] def st_law_triangle_3 : C := (C.set 4 (E.call m_law_draw [(E.var 0), (E.c (.int 6))]))
@[reducible] def st_law_triangle_2 : C := (C.for_ (I.rng1 (E.c (.int 3))) (G.nm 3) lp_law_triangle1)
def b_law_triangle : C := (C.seq (C.own 2 (N.disp [])) (C.seq st_law_triangle_2 (C.seq st_law_triangle_3 (C.seq st_law_triangle_4 (C.seq st_law_triangle_5 (C.seq st_law_triangle_6 (C.seq (C.frz 2) st_law_triangle_7)))))))
def m_law_triangle : Fn := fn 8 2 b_law_triangle
@[reducible] def st_law_beyond_1 : C := (C.ret (E.op O.mul (E.var 2) (E.op O.sub (E.op O.ix (E.var 0) (E.var 1)) (E.op O.mul (E.var 3) (E.op O.ix (E.var 0) (E.c (.int 3)))))))
def b_law_beyond : C := st_law_beyond_1
def m_law_beyond : Fn := fn 4 4 b_law_beyond
def cp_law_cut1 : M (List D) := (N.comp (I.rng1 (E.c (.int 4))) (G.nm 7) [7] (ret true) (E.op O.add (E.op O.mul (E.op O.ix (E.var 0) (E.var 7)) (E.var 6)) (E.op O.mul (E.op O.ix (E.var 1) (E.var 7)) (E.var 5))))
@[reducible] def st_law_cut_3 : C := (C.ret (E.blt F.tuple [(E.frz cp_law_cut1)]))
@[reducible] def st_law_cut_2 : C := (C.set 6 (E.blt F.abs [(E.call m_law_beyond [(E.var 1), (E.var 2), (E.var 3), (E.var 4)])]))
@[reducible] def st_law_cut_1 : C := (C.set 5 (E.blt F.abs [(E.call m_law_beyond [(E.var 0), (E.var 2), (E.var 3), (E.var 4)])]))
def b_law_cut : C := (C.seq st_law_cut_1 (C.seq st_law_cut_2 st_law_cut_3))
def m_law_cut : Fn := fn 8 5 b_law_cut
def lp_law_clip1 : C := (C.seq (C.set 6 (E.op O.ix (E.var 0) (E.op O.sub (E.var 5) (E.c (.int 1))))) (C.seq (C.set 7 (E.op O.ix (E.var 0) (E.var 5))) (C.seq (C.set 8 (E.call m_law_beyond [(E.var 6), (E.var 1), (E.var 2), (E.var 3)])) (C.seq (C.set 9 (E.call m_law_beyond [(E.var 7), (E.var 1), (E.var 2), (E.var 3)])) (C.seq (C.ite (T.or (T.and (T.val (E.op O.gt (E.var 8) (E.c (.int 0)))) (T.val (E.op O.lt (E.var 9) (E.c (.int 0))))) (T.and (T.val (E.op O.lt (E.var 8) (E.c (.int 0)))) (T.val (E.op O.gt (E.var 9) (E.c (.int 0)))))) (C.drop (E.chg U.append (E.var 4) [(E.call m_law_cut [(E.var 6), (E.var 7), (E.var 1), (E.var 2), (E.var 3)])])) C.skip) (C.ite (T.val (E.op O.le (E.var 9) (E.c (.int 0)))) (C.drop (E.chg U.append (E.var 4) [(E.var 7)])) C.skip))))))
@[reducible] def st_law_clip_2 : C := (C.for_ (I.rng1 (E.blt F.len [(E.var 0)])) (G.nm 5) lp_law_clip1)
def b_law_clip : C := (C.seq (C.own 4 (N.disp [])) (C.seq st_law_clip_2 (C.ret (E.var 4))))
def m_law_clip : Fn := fn 10 4 b_law_clip
def cp_law_over1 : M (List D) := (N.comp (I.seqC (E.var 0)) (G.tp [(G.nm 6), (G.nm 7), (G.nm 8)]) [6, 7, 8] (ret true) (E.tup [(E.var 6), (E.var 7), (E.var 8), (E.c (.int 1))]))
def lp_law_over2 : C := (C.set 5 (E.call m_law_clip [(E.var 5), (E.var 9), (E.var 10), (E.var 11)]))
@[reducible] def st_law_over_2 : C := (C.for_ (I.seq (E.frz (N.disp [(E.tup [(E.c (.int 0)), (E.un O.neg (E.c (.int 1))), (E.var 1)]), (E.tup [(E.c (.int 0)), (E.c (.int 1)), (E.var 3)]), (E.tup [(E.c (.int 2)), (E.un O.neg (E.c (.int 1))), (E.var 2)]), (E.tup [(E.c (.int 2)), (E.c (.int 1)), (E.var 4)])]))) (G.tp [(G.nm 9), (G.nm 10), (G.nm 11)]) lp_law_over2)
def b_law_over : C := (C.seq (C.set 5 (E.frz cp_law_over1)) (C.seq st_law_over_2 (C.ret (E.var 5))))
def m_law_over : Fn := fn 12 5 b_law_over
def lp_law_extent1 : C := (C.seq (C.ite (T.val (E.op O.lt (E.op O.mul (E.op O.ix (E.var 8) (E.c (.int 1))) (E.op O.ix (E.var 6) (E.c (.int 3)))) (E.op O.mul (E.op O.ix (E.var 6) (E.c (.int 1))) (E.op O.ix (E.var 8) (E.c (.int 3)))))) (C.set 6 (E.var 8)) C.skip) (C.ite (T.val (E.op O.gt (E.op O.mul (E.op O.ix (E.var 8) (E.c (.int 1))) (E.op O.ix (E.var 7) (E.c (.int 3)))) (E.op O.mul (E.op O.ix (E.var 7) (E.c (.int 1))) (E.op O.ix (E.var 8) (E.c (.int 3)))))) (C.set 7 (E.var 8)) C.skip))
@[reducible] def st_law_extent_6 : C := (C.ret (E.frz (N.disp [(E.tup [(E.op O.ix (E.var 6) (E.c (.int 1))), (E.op O.ix (E.var 6) (E.c (.int 3)))]), (E.tup [(E.op O.ix (E.var 7) (E.c (.int 1))), (E.op O.ix (E.var 7) (E.c (.int 3)))])])))
@[reducible] def st_law_extent_5 : C := (C.for_ (I.seq (E.var 5)) (G.nm 8) lp_law_extent1)
@[reducible] def st_law_extent_4 : C := (C.set 7 (E.op O.ix (E.var 5) (E.c (.int 0))))
@[reducible] def st_law_extent_3 : C := (C.set 6 (E.op O.ix (E.var 5) (E.c (.int 0))))
@[reducible] def st_law_extent_2 : C := (C.ite (T.val (E.op O.eq (E.blt F.len [(E.var 5)]) (E.c (.int 0)))) (C.ret (E.c .non)) C.skip)
@[reducible] def st_law_extent_1 : C := (C.set 5 (E.call m_law_over [(E.var 0), (E.var 1), (E.var 2), (E.var 3), (E.var 4)]))
def b_law_extent : C := (C.seq st_law_extent_1 (C.seq st_law_extent_2 (C.seq st_law_extent_3 (C.seq st_law_extent_4 (C.seq st_law_extent_5 st_law_extent_6)))))
def m_law_extent : Fn := fn 9 5 b_law_extent
@[reducible] def st_minus_1 : C := (C.ret (E.tup [(E.op O.sub (E.op O.ix (E.var 0) (E.c (.int 0))) (E.op O.ix (E.var 1) (E.c (.int 0)))), (E.op O.sub (E.op O.ix (E.var 0) (E.c (.int 1))) (E.op O.ix (E.var 1) (E.c (.int 1)))), (E.op O.sub (E.op O.ix (E.var 0) (E.c (.int 2))) (E.op O.ix (E.var 1) (E.c (.int 2))))]))
def b_minus : C := st_minus_1
def m_minus : Fn := fn 2 2 b_minus
@[reducible] def st_normal_3 : C := (C.ret (E.tup [(E.op O.sub (E.op O.mul (E.op O.ix (E.var 1) (E.c (.int 1))) (E.op O.ix (E.var 2) (E.c (.int 2)))) (E.op O.mul (E.op O.ix (E.var 1) (E.c (.int 2))) (E.op O.ix (E.var 2) (E.c (.int 1))))), (E.op O.sub (E.op O.mul (E.op O.ix (E.var 1) (E.c (.int 2))) (E.op O.ix (E.var 2) (E.c (.int 0)))) (E.op O.mul (E.op O.ix (E.var 1) (E.c (.int 0))) (E.op O.ix (E.var 2) (E.c (.int 2))))), (E.op O.sub (E.op O.mul (E.op O.ix (E.var 1) (E.c (.int 0))) (E.op O.ix (E.var 2) (E.c (.int 1)))) (E.op O.mul (E.op O.ix (E.var 1) (E.c (.int 1))) (E.op O.ix (E.var 2) (E.c (.int 0)))))]))
@[reducible] def st_normal_2 : C := (C.set 2 (E.call m_minus [(E.op O.ix (E.var 0) (E.c (.int 2))), (E.op O.ix (E.var 0) (E.c (.int 0)))]))
@[reducible] def st_normal_1 : C := (C.set 1 (E.call m_minus [(E.op O.ix (E.var 0) (E.c (.int 1))), (E.op O.ix (E.var 0) (E.c (.int 0)))]))
def b_normal : C := (C.seq st_normal_1 (C.seq st_normal_2 st_normal_3))
def m_normal : Fn := fn 3 1 b_normal
@[reducible] def st_positive_2 : C := (C.ret (E.tup [(E.var 0), (E.var 1)]))
@[reducible] def st_positive_1 : C := (C.ite (T.val (E.op O.lt (E.var 1) (E.c (.int 0)))) (C.ret (E.tup [(E.un O.neg (E.var 0)), (E.un O.neg (E.var 1))])) C.skip)
def b_positive : C := (C.seq st_positive_1 st_positive_2)
def m_positive : Fn := fn 2 2 b_positive
@[reducible] def st_on_edge_6 : C := (C.ret (E.call m_positive [(E.op O.add (E.op O.mul (E.op O.ix (E.var 0) (E.c (.int 1))) (E.var 6)) (E.op O.mul (E.op O.sub (E.op O.ix (E.var 1) (E.c (.int 1))) (E.op O.ix (E.var 0) (E.c (.int 1)))) (E.var 7))), (E.var 6)]))
@[reducible] def st_on_edge_5 : C := (C.ite (T.not (T.val (E.chain O.le O.le (E.op O.mul (E.var 4) (E.op O.ix (E.var 8) (E.c (.int 1)))) (E.op O.ix (E.var 8) (E.c (.int 0))) (E.op O.mul (E.var 5) (E.op O.ix (E.var 8) (E.c (.int 1))))))) (C.ret (E.c .non)) C.skip)
@[reducible] def st_on_edge_4 : C := (C.set 8 (E.call m_positive [(E.op O.add (E.op O.mul (E.op O.ix (E.var 0) (E.op O.sub (E.c (.int 2)) (E.var 2))) (E.var 6)) (E.op O.mul (E.op O.sub (E.op O.ix (E.var 1) (E.op O.sub (E.c (.int 2)) (E.var 2))) (E.op O.ix (E.var 0) (E.op O.sub (E.c (.int 2)) (E.var 2)))) (E.var 7))), (E.var 6)]))
@[reducible] def st_on_edge_3 : C := (C.set 7 (E.op O.sub (E.var 3) (E.op O.ix (E.var 0) (E.var 2))))
@[reducible] def st_on_edge_2 : C := (C.ite (T.or (T.val (E.op O.eq (E.var 6) (E.c (.int 0)))) (T.not (T.val (E.chain O.le O.le (E.blt F.min2 [(E.op O.ix (E.var 0) (E.var 2)), (E.op O.ix (E.var 1) (E.var 2))]) (E.var 3) (E.blt F.max2 [(E.op O.ix (E.var 0) (E.var 2)), (E.op O.ix (E.var 1) (E.var 2))]))))) (C.ret (E.c .non)) C.skip)
@[reducible] def st_on_edge_1 : C := (C.set 6 (E.op O.sub (E.op O.ix (E.var 1) (E.var 2)) (E.op O.ix (E.var 0) (E.var 2))))
def b_on_edge : C := (C.seq st_on_edge_1 (C.seq st_on_edge_2 (C.seq st_on_edge_3 (C.seq st_on_edge_4 (C.seq st_on_edge_5 st_on_edge_6)))))
def m_on_edge : Fn := fn 9 6 b_on_edge
@[reducible] def st_side_1 : C := (C.ret (E.op O.sub (E.op O.mul (E.op O.sub (E.op O.ix (E.var 1) (E.c (.int 0))) (E.op O.ix (E.var 0) (E.c (.int 0)))) (E.op O.sub (E.var 3) (E.op O.ix (E.var 0) (E.c (.int 2))))) (E.op O.mul (E.op O.sub (E.op O.ix (E.var 1) (E.c (.int 2))) (E.op O.ix (E.var 0) (E.c (.int 2)))) (E.op O.sub (E.var 2) (E.op O.ix (E.var 0) (E.c (.int 0)))))))
def b_side : C := st_side_1
def m_side : Fn := fn 4 4 b_side
def cp_at_corner1 : M (List D) := (N.comp (I.rng1 (E.c (.int 3))) (G.nm 5) [5] (ret true) (E.call m_side [(E.op O.ix (E.var 0) (E.var 5)), (E.op O.ix (E.var 0) (E.op O.mod (E.op O.add (E.var 5) (E.c (.int 1))) (E.c (.int 3)))), (E.var 2), (E.var 3)]))
@[reducible] def st_at_corner_5 : C := (C.ret (E.call m_positive [(E.op O.sub (E.op O.sub (E.op O.mul (E.op O.ix (E.var 6) (E.c (.int 1))) (E.op O.ix (E.var 1) (E.c (.int 1)))) (E.op O.mul (E.op O.ix (E.var 1) (E.c (.int 0))) (E.op O.sub (E.var 2) (E.op O.ix (E.var 6) (E.c (.int 0)))))) (E.op O.mul (E.op O.ix (E.var 1) (E.c (.int 2))) (E.op O.sub (E.var 3) (E.op O.ix (E.var 6) (E.c (.int 2)))))), (E.op O.ix (E.var 1) (E.c (.int 1)))]))
@[reducible] def st_at_corner_4 : C := (C.set 6 (E.op O.ix (E.var 0) (E.c (.int 0))))
@[reducible] def st_at_corner_3 : C := (C.ite (T.val (E.chain O.lt O.lt (E.blt F.minR [(E.var 4)]) (E.c (.int 0)) (E.blt F.maxR [(E.var 4)]))) (C.ret (E.c .non)) C.skip)
@[reducible] def st_at_corner_2 : C := (C.set 4 (E.frz cp_at_corner1))
@[reducible] def st_at_corner_1 : C := (C.ite (T.val (E.op O.eq (E.op O.ix (E.var 1) (E.c (.int 1))) (E.c (.int 0)))) (C.ret (E.c .non)) C.skip)
def b_at_corner : C := (C.seq st_at_corner_1 (C.seq st_at_corner_2 (C.seq st_at_corner_3 (C.seq st_at_corner_4 st_at_corner_5))))
def m_at_corner : Fn := fn 7 4 b_at_corner
def cp_heights1 : M (List D) := (N.comp (I.seqC (E.tup [(E.var 1), (E.var 3)])) (G.nm 10) [10] (ret true) (E.call m_on_edge [(E.var 8), (E.var 9), (E.c (.int 0)), (E.var 10), (E.var 2), (E.var 4)]))
def cp_heights2 : M (List D) := (N.comp (I.seqC (E.tup [(E.var 2), (E.var 4)])) (G.nm 10) [10] (ret true) (E.call m_on_edge [(E.var 8), (E.var 9), (E.c (.int 2)), (E.var 10), (E.var 1), (E.var 3)]))
def lp_heights3 : C := (C.seq (C.set 8 (E.op O.ix (E.var 0) (E.var 7))) (C.seq (C.set 9 (E.op O.ix (E.var 0) (E.op O.mod (E.op O.add (E.var 7) (E.c (.int 1))) (E.c (.int 3))))) (C.seq (C.ite (T.and (T.val (E.chain O.le O.le (E.var 1) (E.op O.ix (E.var 8) (E.c (.int 0))) (E.var 3))) (T.val (E.chain O.le O.le (E.var 2) (E.op O.ix (E.var 8) (E.c (.int 2))) (E.var 4)))) (C.drop (E.chg U.append (E.var 5) [(E.tup [(E.op O.ix (E.var 8) (E.c (.int 1))), (E.c (.int 1))])])) C.skip) (C.seq (C.drop (E.chg U.extend (E.var 5) [(E.frz cp_heights1)])) (C.drop (E.chg U.extend (E.var 5) [(E.frz cp_heights2)]))))))
def cp_heights4 : M (List D) := (N.comp (I.seqC (E.tup [(E.var 2), (E.var 4)])) (G.nm 12) [12] (ret true) (E.call m_at_corner [(E.var 0), (E.var 6), (E.var 11), (E.var 12)]))
def lp_heights5 : C := (C.drop (E.chg U.extend (E.var 5) [(E.frz cp_heights4)]))
@[reducible] def st_heights_5 : C := (C.ret (E.frz (N.comp (I.seqC (E.var 5)) (G.nm 13) [13] (T.val (E.notN (E.var 13))) (E.var 13))))
@[reducible] def st_heights_4 : C := (C.for_ (I.seq (E.tup [(E.var 1), (E.var 3)])) (G.nm 11) lp_heights5)
@[reducible] def st_heights_3 : C := (C.for_ (I.rng1 (E.c (.int 3))) (G.nm 7) lp_heights3)
@[reducible] def st_heights_2 : C := (C.set 6 (E.call m_normal [(E.var 0)]))
def b_heights : C := (C.seq (C.own 5 (N.disp [])) (C.seq st_heights_2 (C.seq st_heights_3 (C.seq st_heights_4 (C.seq (C.frz 5) st_heights_5)))))
def m_heights : Fn := fn 14 5 b_heights
@[reducible] def st_less_1 : C := (C.ret (E.op O.lt (E.op O.mul (E.op O.ix (E.var 0) (E.c (.int 0))) (E.op O.ix (E.var 1) (E.c (.int 1)))) (E.op O.mul (E.op O.ix (E.var 1) (E.c (.int 0))) (E.op O.ix (E.var 0) (E.c (.int 1))))))
def b_less : C := st_less_1
def m_less : Fn := fn 2 2 b_less
def lp_extent1 : C := (C.seq (C.ite (T.tru (E.call m_less [(E.var 8), (E.var 6)])) (C.set 6 (E.var 8)) C.skip) (C.ite (T.tru (E.call m_less [(E.var 7), (E.var 8)])) (C.set 7 (E.var 8)) C.skip))
@[reducible] def st_extent_6 : C := (C.ret (E.tup [(E.var 6), (E.var 7)]))
@[reducible] def st_extent_5 : C := (C.for_ (I.seq (E.frz (N.slice (E.var 5) (some (E.c (.int 1))) none))) (G.nm 8) lp_extent1)
@[reducible] def st_extent_4 : C := (C.set 7 (E.op O.ix (E.var 5) (E.c (.int 0))))
@[reducible] def st_extent_3 : C := (C.set 6 (E.op O.ix (E.var 5) (E.c (.int 0))))
@[reducible] def st_extent_2 : C := (C.ite (T.not (T.tru (E.var 5))) (C.ret (E.c .non)) C.skip)
@[reducible] def st_extent_1 : C := (C.set 5 (E.call m_heights [(E.var 0), (E.var 1), (E.var 2), (E.var 3), (E.var 4)]))
def b_extent : C := (C.seq st_extent_1 (C.seq st_extent_2 (C.seq st_extent_3 (C.seq st_extent_4 (C.seq st_extent_5 st_extent_6)))))
def m_extent : Fn := fn 9 5 b_extent
@[reducible] def st_law_same_1 : C := (C.ret (E.and (E.op O.gt (E.op O.ix (E.var 0) (E.c (.int 1))) (E.c (.int 0))) (E.op O.eq (E.op O.mul (E.op O.ix (E.var 0) (E.c (.int 0))) (E.op O.ix (E.var 1) (E.c (.int 1)))) (E.op O.mul (E.op O.ix (E.var 1) (E.c (.int 0))) (E.op O.ix (E.var 0) (E.c (.int 1)))))))
def b_law_same : C := st_law_same_1
def m_law_same : Fn := fn 2 2 b_law_same
def lp_law1 : C := (C.seq (C.set 3 (E.op O.ix (E.frz (N.disp [(E.c (.int 12)), (E.c (.int 20)), (E.c (.int 1000))])) (E.call m_law_draw [(E.var 1), (E.c (.int 3))]))) (C.seq (C.set 4 (E.call m_law_triangle [(E.var 1), (E.var 3)])) (C.seq (C.set 5 (E.call m_law_number [(E.var 1), (E.var 3)])) (C.seq (C.set 6 (E.call m_law_number [(E.var 1), (E.var 3)])) (C.seq (C.set 7 (E.op O.add (E.op O.add (E.var 5) (E.c (.int 1))) (E.call m_law_draw [(E.var 1), (E.op O.ix (E.frz (N.disp [(E.c (.int 4)), (E.var 3)])) (E.call m_law_draw [(E.var 1), (E.c (.int 2))]))]))) (C.seq (C.set 8 (E.op O.add (E.op O.add (E.var 6) (E.c (.int 1))) (E.call m_law_draw [(E.var 1), (E.op O.ix (E.frz (N.disp [(E.c (.int 4)), (E.var 3)])) (E.call m_law_draw [(E.var 1), (E.c (.int 2))]))]))) (C.seq (C.set 9 (E.call m_law_extent [(E.var 4), (E.var 5), (E.var 6), (E.var 7), (E.var 8)])) (C.seq (C.set 10 (E.call m_extent [(E.var 4), (E.var 5), (E.var 6), (E.var 7), (E.var 8)])) (C.seq (C.ite (T.or (T.val (E.isN (E.var 9))) (T.val (E.isN (E.var 10)))) (C.ite (T.or (T.val (E.notN (E.var 9))) (T.val (E.notN (E.var 10)))) (C.ret (E.c (.bl false))) C.skip) (C.ite (T.or (T.not (T.tru (E.un (F.isi "tuple") (E.var 10)))) (T.or (T.val (E.op O.ne (E.blt F.len [(E.var 10)]) (E.c (.int 2)))) (T.not (T.tru (E.call m_law_same [(E.op O.ix (E.var 10) (E.c (.int 0))), (E.op O.ix (E.var 9) (E.c (.int 0)))]))))) (C.ret (E.c (.bl false))) (C.ite (T.not (T.tru (E.call m_law_same [(E.op O.ix (E.var 10) (E.c (.int 1))), (E.op O.ix (E.var 9) (E.c (.int 1)))]))) (C.ret (E.c (.bl false))) C.skip))) (C.seq (C.set 11 (E.tup [(E.op O.sub (E.call m_law_draw [(E.var 1), (E.c (.int 200))]) (E.c (.int 100))), (E.op O.add (E.c (.int 1)) (E.call m_law_draw [(E.var 1), (E.c (.int 50))]))])) (C.seq (C.set 12 (E.tup [(E.op O.sub (E.call m_law_draw [(E.var 1), (E.c (.int 200))]) (E.c (.int 100))), (E.op O.add (E.c (.int 1)) (E.call m_law_draw [(E.var 1), (E.c (.int 50))]))])) (C.seq (C.ite (T.val (E.op O.eq (E.call m_law_draw [(E.var 1), (E.c (.int 3))]) (E.c (.int 0)))) (C.set 12 (E.tup [(E.op O.mul (E.c (.int 3)) (E.op O.ix (E.var 11) (E.c (.int 0)))), (E.op O.mul (E.c (.int 3)) (E.op O.ix (E.var 11) (E.c (.int 1))))])) C.skip) (C.seq (C.set 10 (E.call m_less [(E.var 11), (E.var 12)])) (C.ite (T.or (T.not (T.tru (E.un (F.isi "bool") (E.var 10)))) (T.val (E.op O.ne (E.var 10) (E.op O.lt (E.op O.sub (E.op O.mul (E.op O.ix (E.var 11) (E.c (.int 0))) (E.op O.ix (E.var 12) (E.c (.int 1)))) (E.op O.mul (E.op O.ix (E.var 12) (E.c (.int 0))) (E.op O.ix (E.var 11) (E.c (.int 1))))) (E.c (.int 0)))))) (C.ret (E.c (.bl false))) C.skip))))))))))))))
@[reducible] def st_law_2 : C := (C.for_ (I.rng1 (E.c (.int 4))) (G.nm 2) lp_law1)
@[reducible] def st_law_1 : C := (C.set 1 (E.call m_law_state [(E.var 0)]))
def b_law : C := (C.seq st_law_1 (C.seq st_law_2 (C.ret (E.c (.bl true)))))
def m_law : Fn := fn 13 1 b_law
end
end W

set_option Elab.async false
set_option linter.all false
set_option maxRecDepth 100000
set_option maxHeartbeats 1000000
namespace W
open PySem L2 Mi
theorem q_law_draw {s : DS} {many : Int} (tl : List D) {r : Int × DS} (hr : Pl.draw s many = some r) : m_law_draw [.ref 1, .int many] (stT s tl) = some (.int r.1, stT r.2 tl) := Dr.q_draw tl hr
def p_law_number (v_most : Int) (s : DS) : Option (Int × DS) :=
  (Pl.draw s (5 : Int)).bind fun t1 =>
  (Pl.mul t1.1 (4 : Int)).bind fun t2 =>
  (Pl.draw t1.2 v_most).bind fun t3 =>
  (Pl.mul (3 : Int) v_most).bind fun t4 =>
  (Pl.draw t3.2 t4).bind fun t5 =>
  (Pl.draw t5.2 (3 : Int)).bind fun t6 =>
  (Pl.at_ [t2, t3.1, (t5.1 - v_most)] t6.1).bind fun t7 =>
  some (t7, t6.2)
theorem q_law_number {v_most : Int} {s : DS} (tl : List D) {r : (Int × DS)} (hr : p_law_number v_most s = some r) : m_law_number [.ref 1, eI v_most] (stT s tl) = some (eI r.1, stT r.2 tl) := by
  refine Rf.fn (o := p_law_number v_most s) (e := (fun r : (Int × DS) => eI r.1)) (hp := (fun r : (Int × DS) => stT r.2 tl)) (s := [.val (.ref 1), .val (eI v_most)]) rfl rfl ?_ hr
  unfold p_law_number b_law_number
  refine Rf.last ?_
  refine Rf.bd fun t1 h_t1 => ?_
  refine Rf.bd fun t2 h_t2 => ?_
  refine Rf.bd fun t3 h_t3 => ?_
  refine Rf.bd fun t4 h_t4 => ?_
  refine Rf.bd fun t5 h_t5 => ?_
  refine Rf.bd fun t6 h_t6 => ?_
  refine Rf.bd fun t7 h_t7 => ?_
  exact Rf.ret (ev_ixP (e := eI) (ev_frz (ev_disp (ev_args (ev_mulP (ev_call (ev_args (ev_var rfl) (ev_args ev_c ev_args0 rfl) rfl) (q_law_draw tl h_t1)) ev_c h_t2) (ev_args (ev_call (ev_args (ev_var rfl) (ev_args (ev_var rfl) ev_args0 rfl) rfl) (q_law_draw tl h_t3)) (ev_args (ev_sub (ev_call (ev_args (ev_var rfl) (ev_args (ev_mulP ev_c (ev_var rfl) h_t4) ev_args0 rfl) rfl) (q_law_draw tl h_t5)) (ev_var rfl)) ev_args0 rfl) rfl) rfl))) (ev_call (ev_args (ev_var rfl) (ev_args ev_c ev_args0 rfl) rfl) (q_law_draw tl h_t6)) rfl h_t7) rfl ⟨.inl rfl, rfl⟩
def p_law_triangle (v_most : Int) (s : DS) : Option ((List (Int × Int × Int)) × DS) :=
  (Pl.rngO 0 (3 : Int)).bind fun t1 =>
  (Pl.forN (fun (x4 : Int) (s2 : (List (Int × Int × Int)) × DS) =>
  (p_law_number v_most s2.2).bind fun t5 =>
  (Pl.mul (2 : Int) v_most).bind fun t6 =>
  (Pl.draw t5.2 t6).bind fun t7 =>
  (p_law_number v_most t7.2).bind fun t8 =>
  (Pl.app s2.1 (t5.1, (t7.1 - v_most), t8.1)).bind fun v_points9 =>
  some (v_points9, t8.2)) t1 (([] : List (Int × Int × Int)), s)).bind fun (s2 : (List (Int × Int × Int)) × DS) =>
  (Pl.draw s2.2 (6 : Int)).bind fun t10 =>
  ((if (decide (t10.1 = (0 : Int))) = true then
  (Pl.at_ s2.1 (0 : Int)).bind fun t12 =>
  (Pl.at_ s2.1 (2 : Int)).bind fun t13 =>
  (Pl.at_ s2.1 (0 : Int)).bind fun t14 =>
  (Pl.setAt s2.1 (2 : Int) (t12.1, t13.2.1, t14.2.2)).bind fun v_points15 =>
  some (v_points15)
  else
  some (s2.1)) : Option ((List (Int × Int × Int)))).bind fun j11 =>
  ((if (decide (t10.1 = (1 : Int))) = true then
  (Pl.at_ j11 (0 : Int)).bind fun t17 =>
  (Pl.setAt j11 (1 : Int) t17).bind fun v_points18 =>
  some (v_points18)
  else
  some (j11)) : Option ((List (Int × Int × Int)))).bind fun j16 =>
  ((if (decide (t10.1 = (2 : Int))) = true then
  (Pl.comp (fun (x20 : (Int × Int × Int)) => (some true)) (fun (x20 : (Int × Int × Int)) => ((Pl.at_ j16 (0 : Int)).bind fun t21 => some (x20.1, x20.2.1, t21.2.2))) j16).bind fun t22 =>
  some (t22)
  else
  some (j16)) : Option ((List (Int × Int × Int)))).bind fun j19 =>
  some (j19, t10.2)
theorem q_law_triangle {v_most : Int} {s : DS} (tl : List D) {r : ((List (Int × Int × Int)) × DS)} (hr : p_law_triangle v_most s = some r) : m_law_triangle [.ref 1, eI v_most] (stT s tl) = some ((eU (e3 eI eI eI)) r.1, stT r.2 tl) := by
  refine Rf.fn (o := p_law_triangle v_most s) (e := (fun r : ((List (Int × Int × Int)) × DS) => (eU (e3 eI eI eI)) r.1)) (hp := (fun r : ((List (Int × Int × Int)) × DS) => stT r.2 tl)) (s := [.val (.ref 1), .val (eI v_most), .no, .no, .no, .no, .no, .no]) rfl rfl ?_ hr
  unfold p_law_triangle b_law_triangle
  refine Rf.own0 (ds := List.map (e3 eI eI eI) ([] : List (Int × Int × Int))) (ev_disp ev_args0) (Nat.le_of_ble_eq_true rfl) (sl_s (sl_s sl_z)) ?_
  refine Rf.bd fun t1 h_t1 => ?_
  refine Rf.thn (fun (s2 : (List (Int × Int × Int)) × DS) z' => ∃ X3 : Option D, z' = ⟨[.val (.ref 1), .val (eI v_most), .own (.lst (List.map (e3 eI eI eI) s2.1)), (sv X3), .no, .no, .no, .no], (stT s2.2 tl)⟩) (Rf.forN (xs := t1) (v := (([] : List (Int × Int × Int)), s)) eI (fun (s2 : (List (Int × Int × Int)) × DS) z' => ∃ X3 : Option D, z' = ⟨[.val (.ref 1), .val (eI v_most), .own (.lst (List.map (e3 eI eI eI) s2.1)), (sv X3), .no, .no, .no, .no], (stT s2.2 tl)⟩) (ev_rngP1 ev_c h_t1) ⟨none, rfl⟩ fun x4 s2 z' hz => ?_) ?_
  · obtain ⟨X3, rfl⟩ := hz
    refine ⟨_, (gr_nm (sl_s (sl_s (sl_s sl_z)))), ?_⟩
    refine Rf.last ?_
    refine Rf.bd fun t5 h_t5 => ?_
    refine Rf.bd fun t6 h_t6 => ?_
    refine Rf.bd fun t7 h_t7 => ?_
    refine Rf.bd fun t8 h_t8 => ?_
    refine Rf.app (xs := s2.1) (t := (t5.1, (t7.1 - v_most), t8.1)) (e3 eI eI eI) rfl (ev_tup (ev_args (ev_call (ev_args (ev_var rfl) (ev_args (ev_var rfl) ev_args0 rfl) rfl) (q_law_number tl h_t5)) (ev_args (ev_sub (ev_call (ev_args (ev_var rfl) (ev_args (ev_mulP ev_c (ev_var rfl) h_t6) ev_args0 rfl) rfl) (q_law_draw tl h_t7)) (ev_var rfl)) (ev_args (ev_call (ev_args (ev_var rfl) (ev_args (ev_var rfl) ev_args0 rfl) rfl) (q_law_number tl h_t8)) ev_args0 rfl) rfl) rfl)) rfl (fun _ => (sl_s (sl_s sl_z))) fun v_points9 => ?_
    exact Rf.fin ⟨.inl rfl, (some (eI x4)), rfl⟩
  · rintro s2 _ ⟨X3, rfl⟩
    refine Rf.bd fun t10 h_t10 => ?_
    refine Rf.set0 (d := eI t10.1) (ev_call (ev_args (ev_var rfl) (ev_args ev_c ev_args0 rfl) rfl) (q_law_draw tl h_t10)) rfl (sl_s (sl_s (sl_s (sl_s sl_z)))) ?_
    refine Rf.thn (β := (List (Int × Int × Int))) (fun j11 z' => z' = ⟨[.val (.ref 1), .val (eI v_most), .own (.lst (List.map (e3 eI eI eI) j11)), (sv X3), .val (eI t10.1), .no, .no, .no], (stT t10.2 tl)⟩) ?_ ?_
    · refine Rf.last ?_
      refine Rf.ite (tv (ev_eqI (ev_var rfl) ev_c)) ?_ ?_
      · refine Rf.bd fun t12 h_t12 => ?_
        refine Rf.bd fun t13 h_t13 => ?_
        refine Rf.bd fun t14 h_t14 => ?_
        refine Rf.setIx (xs := s2.1) (t := (t12.1, t13.2.1, t14.2.2)) (e3 eI eI eI) (ev_tup (ev_args (ev_ix (ev_ixP (e := (e3 eI eI eI)) (ev_varO rfl) ev_c rfl h_t12) ev_c rfl rfl) (ev_args (ev_ix (ev_ixP (e := (e3 eI eI eI)) (ev_varO rfl) ev_c rfl h_t13) ev_c rfl rfl) (ev_args (ev_ix (ev_ixP (e := (e3 eI eI eI)) (ev_varO rfl) ev_c rfl h_t14) ev_c rfl rfl) ev_args0 rfl) rfl) rfl)) rfl rfl ev_c rfl (fun _ => (sl_s (sl_s sl_z))) fun v_points15 => ?_
        exact Rf.fin ⟨rfl, rfl⟩
      · refine Rf.skip ?_
        exact Rf.fin ⟨rfl, rfl⟩
    · rintro j11 _ ⟨rfl⟩
      refine Rf.thn (β := (List (Int × Int × Int))) (fun j16 z' => z' = ⟨[.val (.ref 1), .val (eI v_most), .own (.lst (List.map (e3 eI eI eI) j16)), (sv X3), .val (eI t10.1), .no, .no, .no], (stT t10.2 tl)⟩) ?_ ?_
      · refine Rf.last ?_
        refine Rf.ite (tv (ev_eqI (ev_var rfl) ev_c)) ?_ ?_
        · refine Rf.bd fun t17 h_t17 => ?_
          refine Rf.setIx (xs := j11) (t := t17) (e3 eI eI eI) (ev_ixP (e := (e3 eI eI eI)) (ev_varO rfl) ev_c rfl h_t17) rfl rfl ev_c rfl (fun _ => (sl_s (sl_s sl_z))) fun v_points18 => ?_
          exact Rf.fin ⟨rfl, rfl⟩
        · refine Rf.skip ?_
          exact Rf.fin ⟨rfl, rfl⟩
      · rintro j16 _ ⟨rfl⟩
        refine Rf.thn (β := (List (Int × Int × Int))) (fun j19 z' => z' = ⟨[.val (.ref 1), .val (eI v_most), .own (.lst (List.map (e3 eI eI eI) j19)), (sv X3), .val (eI t10.1), .no, .no, .no], (stT t10.2 tl)⟩) ?_ ?_
        · refine Rf.last ?_
          refine Rf.ite (tv (ev_eqI (ev_var rfl) ev_c)) ?_ ?_
          · refine Rf.bd fun t22 h_t22 => ?_
            refine Rf.own0 (ds := List.map (e3 eI eI eI) t22) (ev_cmp (e3 eI eI eI) (e3 eI eI eI) (s := [.val (.ref 1), .val (eI v_most), .own (.lst (List.map (e3 eI eI eI) j16)), (sv X3), .val (eI t10.1), .no, .no, .no]) (s' := [.val (.ref 1), .val (eI v_most), .own (.lst (List.map (e3 eI eI eI) j16)), (sv X3), .val (eI t10.1), .no, .no, .no]) (s2 := [.val (.ref 1), .val (eI v_most), .own (.lst (List.map (e3 eI eI eI) j16)), (sv X3), .val (eI t10.1), .no, .no, .no]) (ev_seqCO (ev_varO rfl) rfl) rfl rfl (ok_own rfl) rfl (fun x20 => ⟨_, _, (gr_tp (gr_cons (gr_nm (sl_s (sl_s (sl_s (sl_s (sl_s sl_z)))))) (gr_cons (gr_nm (sl_s (sl_s (sl_s (sl_s (sl_s (sl_s sl_z))))))) (gr_cons (gr_nm (sl_s (sl_s (sl_s (sl_s (sl_s (sl_s (sl_s sl_z)))))))) gr_nil)))), fun b hb => by cases hb; exact ev_true, rfl, fun y hy => by obtain ⟨t21, h_t21, hy⟩ := bI hy; cases hy; exact ⟨_, (ev_tup (ev_args (ev_var rfl) (ev_args (ev_var rfl) (ev_args (ev_ix (ev_ixP (e := (e3 eI eI eI)) (ev_varO rfl) ev_c rfl h_t21) ev_c rfl rfl) ev_args0 rfl) rfl) rfl)), rfl, rfl⟩⟩) h_t22) (Nat.le_of_ble_eq_true rfl) (sl_s (sl_s sl_z)) ?_
            exact Rf.fin ⟨rfl, rfl⟩
          · refine Rf.skip ?_
            exact Rf.fin ⟨rfl, rfl⟩
        · rintro j19 _ ⟨rfl⟩
          refine Rf.frz rfl (sl_s (sl_s sl_z)) ?_
          refine Rf.last ?_
          exact Rf.ret (ev_blt1 (ev_var rfl) (lf_tuple rfl rfl)) rfl ⟨.inl rfl, rfl⟩
def p_law_beyond (v_point : (List Int)) (v_axis : Int) (v_sign : Int) (v_at : Int) : Option Int :=
  (Pl.at_ v_point v_axis).bind fun t1 =>
  (Pl.at_ v_point (3 : Int)).bind fun t2 =>
  (Pl.mul v_at t2).bind fun t3 =>
  (Pl.mul v_sign (t1 - t3)).bind fun t4 =>
  some t4
theorem q_law_beyond {v_point : (List Int)} {v_axis : Int} {v_sign : Int} {v_at : Int} (h : List D) {r : Int} (hr : p_law_beyond v_point v_axis v_sign v_at = some r) : m_law_beyond [(eU eI) v_point, eI v_axis, eI v_sign, eI v_at] h = some (eI r, h) := by
  refine Rf.fn (o := p_law_beyond v_point v_axis v_sign v_at) (e := eI) (hp := (fun _ : Int => h)) (s := [.val ((eU eI) v_point), .val (eI v_axis), .val (eI v_sign), .val (eI v_at)]) rfl rfl ?_ hr
  unfold p_law_beyond b_law_beyond
  refine Rf.last ?_
  refine Rf.bd fun t1 h_t1 => ?_
  refine Rf.bd fun t2 h_t2 => ?_
  refine Rf.bd fun t3 h_t3 => ?_
  refine Rf.bd fun t4 h_t4 => ?_
  exact Rf.ret (ev_mulP (ev_var rfl) (ev_sub (ev_ixP (e := eI) (ev_var rfl) (ev_var rfl) rfl h_t1) (ev_mulP (ev_var rfl) (ev_ixP (e := eI) (ev_var rfl) ev_c rfl h_t2) h_t3)) h_t4) rfl ⟨.inl rfl, rfl⟩
def p_law_cut (v_one : (List Int)) (v_other : (List Int)) (v_axis : Int) (v_sign : Int) (v_at : Int) : Option (List Int) :=
  (p_law_beyond v_one v_axis v_sign v_at).bind fun t1 =>
  (some ((if t1 < 0 then -t1 else t1))).bind fun v_a2 =>
  (p_law_beyond v_other v_axis v_sign v_at).bind fun t3 =>
  (some ((if t3 < 0 then -t3 else t3))).bind fun v_b4 =>
  (Pl.rngO 0 (4 : Int)).bind fun t5 =>
  (Pl.comp (fun (x6 : Int) => (some true)) (fun (x6 : Int) => ((Pl.at_ v_one x6).bind fun t7 => (Pl.mul t7 v_b4).bind fun t8 => (Pl.at_ v_other x6).bind fun t9 => (Pl.mul t9 v_a2).bind fun t10 => some (t8 + t10))) t5).bind fun t11 =>
  some t11
theorem q_law_cut {v_one : (List Int)} {v_other : (List Int)} {v_axis : Int} {v_sign : Int} {v_at : Int} (h : List D) {r : (List Int)} (hr : p_law_cut v_one v_other v_axis v_sign v_at = some r) : m_law_cut [(eU eI) v_one, (eU eI) v_other, eI v_axis, eI v_sign, eI v_at] h = some ((eU eI) r, h) := by
  refine Rf.fn (o := p_law_cut v_one v_other v_axis v_sign v_at) (e := (eU eI)) (hp := (fun _ : (List Int) => h)) (s := [.val ((eU eI) v_one), .val ((eU eI) v_other), .val (eI v_axis), .val (eI v_sign), .val (eI v_at), .no, .no, .no]) rfl rfl ?_ hr
  unfold p_law_cut b_law_cut
  refine Rf.bd fun t1 h_t1 => ?_
  refine Rf.setT (t := (if t1 < 0 then -t1 else t1)) eI (ev_blt1 (ev_call (ev_args (ev_var rfl) (ev_args (ev_var rfl) (ev_args (ev_var rfl) (ev_args (ev_var rfl) ev_args0 rfl) rfl) rfl) rfl) (q_law_beyond _ h_t1)) lf_abs) (fun _ => rfl) (fun _ => (sl_s (sl_s (sl_s (sl_s (sl_s sl_z)))))) fun v_a2 => ?_
  refine Rf.bd fun t3 h_t3 => ?_
  refine Rf.setT (t := (if t3 < 0 then -t3 else t3)) eI (ev_blt1 (ev_call (ev_args (ev_var rfl) (ev_args (ev_var rfl) (ev_args (ev_var rfl) (ev_args (ev_var rfl) ev_args0 rfl) rfl) rfl) rfl) (q_law_beyond _ h_t3)) lf_abs) (fun _ => rfl) (fun _ => (sl_s (sl_s (sl_s (sl_s (sl_s (sl_s sl_z))))))) fun v_b4 => ?_
  refine Rf.last ?_
  refine Rf.bd fun t5 h_t5 => ?_
  refine Rf.bd fun t11 h_t11 => ?_
  exact Rf.ret (ev_blt1 (ev_frz (ev_cmp eI eI (s := [.val ((eU eI) v_one), .val ((eU eI) v_other), .val (eI v_axis), .val (eI v_sign), .val (eI v_at), .val (eI v_a2), .val (eI v_b4), .no]) (s' := [.val ((eU eI) v_one), .val ((eU eI) v_other), .val (eI v_axis), .val (eI v_sign), .val (eI v_at), .val (eI v_a2), .val (eI v_b4), .no]) (s2 := [.val ((eU eI) v_one), .val ((eU eI) v_other), .val (eI v_axis), .val (eI v_sign), .val (eI v_at), .val (eI v_a2), .val (eI v_b4), .no]) (ev_rngP1 ev_c h_t5) rfl rfl rfl rfl (fun x6 => ⟨_, _, (gr_nm (sl_s (sl_s (sl_s (sl_s (sl_s (sl_s (sl_s sl_z)))))))), fun b hb => by cases hb; exact ev_true, rfl, fun y hy => by obtain ⟨t7, h_t7, hy⟩ := bI hy; obtain ⟨t8, h_t8, hy⟩ := bI hy; obtain ⟨t9, h_t9, hy⟩ := bI hy; obtain ⟨t10, h_t10, hy⟩ := bI hy; cases hy; exact ⟨_, (ev_add (ev_mulP (ev_ixP (e := eI) (ev_var rfl) (ev_var rfl) rfl h_t7) (ev_var rfl) h_t8) (ev_mulP (ev_ixP (e := eI) (ev_var rfl) (ev_var rfl) rfl h_t9) (ev_var rfl) h_t10)), rfl, rfl⟩⟩) h_t11)) (lf_tuple rfl rfl)) rfl ⟨.inl rfl, rfl⟩
def p_law_clip (v_shape : (List (List Int))) (v_axis : Int) (v_sign : Int) (v_at : Int) : Option (List (List Int)) :=
  (Pl.rngO 0 (v_shape.length : Int)).bind fun t1 =>
  (Pl.forN (fun (x8 : Int) (s2 : (List (List Int))) =>
  (Pl.at_ v_shape (x8 - (1 : Int))).bind fun t9 =>
  (Pl.at_ v_shape x8).bind fun t10 =>
  (p_law_beyond t9 v_axis v_sign v_at).bind fun t11 =>
  (p_law_beyond t10 v_axis v_sign v_at).bind fun t12 =>
  ((if (((decide ((0 : Int) < t11)) && (decide (t12 < (0 : Int)))) || ((decide (t11 < (0 : Int))) && (decide ((0 : Int) < t12)))) = true then
  (p_law_cut t9 t10 v_axis v_sign v_at).bind fun t14 =>
  (Pl.app s2 t14).bind fun v_found15 =>
  some (v_found15)
  else
  some (s2)) : Option ((List (List Int)))).bind fun j13 =>
  ((if (decide (t12 ≤ (0 : Int))) = true then
  (Pl.app j13 t10).bind fun v_found17 =>
  some (v_found17)
  else
  some (j13)) : Option ((List (List Int)))).bind fun j16 =>
  some (j16)) t1 (([] : List (List Int)))).bind fun (s2 : (List (List Int))) =>
  some s2
theorem q_law_clip {v_shape : (List (List Int))} {v_axis : Int} {v_sign : Int} {v_at : Int} (h : List D) {r : (List (List Int))} (hr : p_law_clip v_shape v_axis v_sign v_at = some r) : m_law_clip [(eL (eU eI)) v_shape, eI v_axis, eI v_sign, eI v_at] h = some ((eL (eU eI)) r, h) := by
  refine Rf.fn (o := p_law_clip v_shape v_axis v_sign v_at) (e := (eL (eU eI))) (hp := (fun _ : (List (List Int)) => h)) (s := [.val ((eL (eU eI)) v_shape), .val (eI v_axis), .val (eI v_sign), .val (eI v_at), .no, .no, .no, .no, .no, .no]) rfl rfl ?_ hr
  unfold p_law_clip b_law_clip
  refine Rf.own0 (ds := List.map (eU eI) ([] : List (List Int))) (ev_disp ev_args0) (Nat.le_of_ble_eq_true rfl) (sl_s (sl_s (sl_s (sl_s sl_z)))) ?_
  refine Rf.bd fun t1 h_t1 => ?_
  refine Rf.thn (fun (s2 : (List (List Int))) z' => ∃ X3 : Option D, ∃ X4 : Option D, ∃ X5 : Option D, ∃ X6 : Option D, ∃ X7 : Option D, z' = ⟨[.val ((eL (eU eI)) v_shape), .val (eI v_axis), .val (eI v_sign), .val (eI v_at), .own (.lst (List.map (eU eI) s2)), (sv X3), (sv X4), (sv X5), (sv X6), (sv X7)], h⟩) (Rf.forN (xs := t1) (v := (([] : List (List Int)))) eI (fun (s2 : (List (List Int))) z' => ∃ X3 : Option D, ∃ X4 : Option D, ∃ X5 : Option D, ∃ X6 : Option D, ∃ X7 : Option D, z' = ⟨[.val ((eL (eU eI)) v_shape), .val (eI v_axis), .val (eI v_sign), .val (eI v_at), .own (.lst (List.map (eU eI) s2)), (sv X3), (sv X4), (sv X5), (sv X6), (sv X7)], h⟩) (ev_rngP1 (ev_blt1 (ev_var rfl) (F_lenM (e := (eU eI)) rfl)) h_t1) ⟨none, none, none, none, none, rfl⟩ fun x8 s2 z' hz => ?_) ?_
  · obtain ⟨X3, X4, X5, X6, X7, rfl⟩ := hz
    refine ⟨_, (gr_nm (sl_s (sl_s (sl_s (sl_s (sl_s sl_z)))))), ?_⟩
    refine Rf.bd fun t9 h_t9 => ?_
    refine Rf.set0 (d := (eU eI) t9) (ev_ixP (e := (eU eI)) (ev_var rfl) (ev_sub (ev_var rfl) ev_c) rfl h_t9) rfl (sl_s (sl_s (sl_s (sl_s (sl_s (sl_s sl_z)))))) ?_
    refine Rf.bd fun t10 h_t10 => ?_
    refine Rf.set0 (d := (eU eI) t10) (ev_ixP (e := (eU eI)) (ev_var rfl) (ev_var rfl) rfl h_t10) rfl (sl_s (sl_s (sl_s (sl_s (sl_s (sl_s (sl_s sl_z))))))) ?_
    refine Rf.bd fun t11 h_t11 => ?_
    refine Rf.set0 (d := eI t11) (ev_call (ev_args (ev_var rfl) (ev_args (ev_var rfl) (ev_args (ev_var rfl) (ev_args (ev_var rfl) ev_args0 rfl) rfl) rfl) rfl) (q_law_beyond _ h_t11)) rfl (sl_s (sl_s (sl_s (sl_s (sl_s (sl_s (sl_s (sl_s sl_z)))))))) ?_
    refine Rf.bd fun t12 h_t12 => ?_
    refine Rf.set0 (d := eI t12) (ev_call (ev_args (ev_var rfl) (ev_args (ev_var rfl) (ev_args (ev_var rfl) (ev_args (ev_var rfl) ev_args0 rfl) rfl) rfl) rfl) (q_law_beyond _ h_t12)) rfl (sl_s (sl_s (sl_s (sl_s (sl_s (sl_s (sl_s (sl_s (sl_s sl_z))))))))) ?_
    refine Rf.thn (β := (List (List Int))) (fun j13 z' => z' = ⟨[.val ((eL (eU eI)) v_shape), .val (eI v_axis), .val (eI v_sign), .val (eI v_at), .own (.lst (List.map (eU eI) j13)), .val (eI x8), .val ((eU eI) t9), .val ((eU eI) t10), .val (eI t11), .val (eI t12)], h⟩) ?_ ?_
    · refine Rf.last ?_
      refine Rf.ite (tt_or (tt_and (tv (ev_gt (ev_var rfl) ev_c)) fun _ => (tv (ev_lt (ev_var rfl) ev_c))) fun _ => (tt_and (tv (ev_lt (ev_var rfl) ev_c)) fun _ => (tv (ev_gt (ev_var rfl) ev_c)))) ?_ ?_
      · refine Rf.bd fun t14 h_t14 => ?_
        refine Rf.app (xs := s2) (t := t14) (eU eI) rfl (ev_call (ev_args (ev_var rfl) (ev_args (ev_var rfl) (ev_args (ev_var rfl) (ev_args (ev_var rfl) (ev_args (ev_var rfl) ev_args0 rfl) rfl) rfl) rfl) rfl) (q_law_cut _ h_t14)) rfl (fun _ => (sl_s (sl_s (sl_s (sl_s sl_z))))) fun v_found15 => ?_
        exact Rf.fin ⟨rfl, rfl⟩
      · refine Rf.skip ?_
        exact Rf.fin ⟨rfl, rfl⟩
    · rintro j13 _ ⟨rfl⟩
      refine Rf.last ?_
      refine Rf.thn (β := (List (List Int))) (fun j16 z' => z' = ⟨[.val ((eL (eU eI)) v_shape), .val (eI v_axis), .val (eI v_sign), .val (eI v_at), .own (.lst (List.map (eU eI) j16)), .val (eI x8), .val ((eU eI) t9), .val ((eU eI) t10), .val (eI t11), .val (eI t12)], h⟩) ?_ ?_
      · refine Rf.last ?_
        refine Rf.ite (tv (ev_le (ev_var rfl) ev_c)) ?_ ?_
        · refine Rf.app (xs := j13) (t := t10) (eU eI) rfl (ev_var rfl) rfl (fun _ => (sl_s (sl_s (sl_s (sl_s sl_z))))) fun v_found17 => ?_
          exact Rf.fin ⟨rfl, rfl⟩
        · refine Rf.skip ?_
          exact Rf.fin ⟨rfl, rfl⟩
      · rintro j16 _ ⟨rfl⟩
        exact Rf.fin ⟨.inl rfl, (some (eI x8)), (some ((eU eI) t9)), (some ((eU eI) t10)), (some (eI t11)), (some (eI t12)), rfl⟩
  · rintro s2 _ ⟨X3, X4, X5, X6, X7, rfl⟩
    refine Rf.last ?_
    exact Rf.retO (ev_varO rfl) rfl ⟨.inl rfl, rfl⟩
def p_law_over (v_triangle_here : (List (Int × Int × Int))) (v_x0 : Int) (v_z0 : Int) (v_x1 : Int) (v_z1 : Int) : Option (List (List Int)) :=
  (Pl.comp (fun (x1 : (Int × Int × Int)) => (some true)) (fun (x1 : (Int × Int × Int)) => (some [((x1.1, x1.2.1, x1.2.2, (1 : Int))).1, ((x1.1, x1.2.1, x1.2.2, (1 : Int))).2.1, ((x1.1, x1.2.1, x1.2.2, (1 : Int))).2.2.1, ((x1.1, x1.2.1, x1.2.2, (1 : Int))).2.2.2])) v_triangle_here).bind fun t2 =>
  (Pl.forN (fun (x7 : (Int × Int × Int)) (s3 : (List (List Int))) =>
  (p_law_clip s3 x7.1 x7.2.1 x7.2.2).bind fun t8 =>
  some (t8)) [((0 : Int), (-(1 : Int)), v_x0), ((0 : Int), (1 : Int), v_x1), ((2 : Int), (-(1 : Int)), v_z0), ((2 : Int), (1 : Int), v_z1)] (t2)).bind fun (s3 : (List (List Int))) =>
  some s3
theorem q_law_over {v_triangle_here : (List (Int × Int × Int))} {v_x0 : Int} {v_z0 : Int} {v_x1 : Int} {v_z1 : Int} (h : List D) {r : (List (List Int))} (hr : p_law_over v_triangle_here v_x0 v_z0 v_x1 v_z1 = some r) : m_law_over [(eU (e3 eI eI eI)) v_triangle_here, eI v_x0, eI v_z0, eI v_x1, eI v_z1] h = some ((eL (eU eI)) r, h) := by
  refine Rf.fn (o := p_law_over v_triangle_here v_x0 v_z0 v_x1 v_z1) (e := (eL (eU eI))) (hp := (fun _ : (List (List Int)) => h)) (s := [.val ((eU (e3 eI eI eI)) v_triangle_here), .val (eI v_x0), .val (eI v_z0), .val (eI v_x1), .val (eI v_z1), .no, .no, .no, .no, .no, .no, .no]) rfl rfl ?_ hr
  unfold p_law_over b_law_over
  refine Rf.bd fun t2 h_t2 => ?_
  refine Rf.set0 (d := (eL (eU eI)) t2) (ev_frz (ev_cmp (e3 eI eI eI) (eU eI) (s := [.val ((eU (e3 eI eI eI)) v_triangle_here), .val (eI v_x0), .val (eI v_z0), .val (eI v_x1), .val (eI v_z1), .no, .no, .no, .no, .no, .no, .no]) (s' := [.val ((eU (e3 eI eI eI)) v_triangle_here), .val (eI v_x0), .val (eI v_z0), .val (eI v_x1), .val (eI v_z1), .no, .no, .no, .no, .no, .no, .no]) (s2 := [.val ((eU (e3 eI eI eI)) v_triangle_here), .val (eI v_x0), .val (eI v_z0), .val (eI v_x1), .val (eI v_z1), .no, .no, .no, .no, .no, .no, .no]) (ev_itsC (e := (e3 eI eI eI)) (xs := v_triangle_here) (ev_var rfl) rfl) rfl rfl rfl rfl (fun x1 => ⟨_, _, (gr_tp (gr_cons (gr_nm (sl_s (sl_s (sl_s (sl_s (sl_s (sl_s sl_z))))))) (gr_cons (gr_nm (sl_s (sl_s (sl_s (sl_s (sl_s (sl_s (sl_s sl_z)))))))) (gr_cons (gr_nm (sl_s (sl_s (sl_s (sl_s (sl_s (sl_s (sl_s (sl_s sl_z))))))))) gr_nil)))), fun b hb => by cases hb; exact ev_true, rfl, fun y hy => by cases hy; exact ⟨_, (ev_tup (ev_args (ev_var rfl) (ev_args (ev_var rfl) (ev_args (ev_var rfl) (ev_args ev_c ev_args0 rfl) rfl) rfl) rfl)), rfl, rfl⟩⟩) h_t2)) rfl (sl_s (sl_s (sl_s (sl_s (sl_s sl_z))))) ?_
  refine Rf.thn (fun (s3 : (List (List Int))) z' => ∃ X4 : Option D, ∃ X5 : Option D, ∃ X6 : Option D, z' = ⟨[.val ((eU (e3 eI eI eI)) v_triangle_here), .val (eI v_x0), .val (eI v_z0), .val (eI v_x1), .val (eI v_z1), .val ((eL (eU eI)) s3), .no, .no, .no, (sv X4), (sv X5), (sv X6)], h⟩) (Rf.forN (xs := [((0 : Int), (-(1 : Int)), v_x0), ((0 : Int), (1 : Int), v_x1), ((2 : Int), (-(1 : Int)), v_z0), ((2 : Int), (1 : Int), v_z1)]) (v := (t2)) (e3 eI eI eI) (fun (s3 : (List (List Int))) z' => ∃ X4 : Option D, ∃ X5 : Option D, ∃ X6 : Option D, z' = ⟨[.val ((eU (e3 eI eI eI)) v_triangle_here), .val (eI v_x0), .val (eI v_z0), .val (eI v_x1), .val (eI v_z1), .val ((eL (eU eI)) s3), .no, .no, .no, (sv X4), (sv X5), (sv X6)], h⟩) (ev_itsP (e := (e3 eI eI eI)) (xs := [((0 : Int), (-(1 : Int)), v_x0), ((0 : Int), (1 : Int), v_x1), ((2 : Int), (-(1 : Int)), v_z0), ((2 : Int), (1 : Int), v_z1)]) (ev_frz (ev_disp (ev_args (ev_tup (ev_args ev_c (ev_args (ev_neg ev_c) (ev_args (ev_var rfl) ev_args0 rfl) rfl) rfl)) (ev_args (ev_tup (ev_args ev_c (ev_args ev_c (ev_args (ev_var rfl) ev_args0 rfl) rfl) rfl)) (ev_args (ev_tup (ev_args ev_c (ev_args (ev_neg ev_c) (ev_args (ev_var rfl) ev_args0 rfl) rfl) rfl)) (ev_args (ev_tup (ev_args ev_c (ev_args ev_c (ev_args (ev_var rfl) ev_args0 rfl) rfl) rfl)) ev_args0 rfl) rfl) rfl) rfl))) rfl) ⟨none, none, none, rfl⟩ fun x7 s3 z' hz => ?_) ?_
  · obtain ⟨X4, X5, X6, rfl⟩ := hz
    refine ⟨_, (gr_tp (gr_cons (gr_nm (sl_s (sl_s (sl_s (sl_s (sl_s (sl_s (sl_s (sl_s (sl_s sl_z)))))))))) (gr_cons (gr_nm (sl_s (sl_s (sl_s (sl_s (sl_s (sl_s (sl_s (sl_s (sl_s (sl_s sl_z))))))))))) (gr_cons (gr_nm (sl_s (sl_s (sl_s (sl_s (sl_s (sl_s (sl_s (sl_s (sl_s (sl_s (sl_s sl_z)))))))))))) gr_nil)))), ?_⟩
    refine Rf.last ?_
    refine Rf.bd fun t8 h_t8 => ?_
    refine Rf.set0 (d := (eL (eU eI)) t8) (ev_call (ev_args (ev_var rfl) (ev_args (ev_var rfl) (ev_args (ev_var rfl) (ev_args (ev_var rfl) ev_args0 rfl) rfl) rfl) rfl) (q_law_clip _ h_t8)) rfl (sl_s (sl_s (sl_s (sl_s (sl_s sl_z))))) ?_
    exact Rf.fin ⟨.inl rfl, (some (eI x7.1)), (some (eI x7.2.1)), (some (eI x7.2.2)), rfl⟩
  · rintro s3 _ ⟨X4, X5, X6, rfl⟩
    refine Rf.last ?_
    exact Rf.ret (ev_var rfl) rfl ⟨.inl rfl, rfl⟩
def p_law_extent (v_triangle_here : (List (Int × Int × Int))) (v_x0 : Int) (v_z0 : Int) (v_x1 : Int) (v_z1 : Int) : Option (Option (List (Int × Int))) :=
  (p_law_over v_triangle_here v_x0 v_z0 v_x1 v_z1).bind fun t1 =>
  (if (decide ((t1.length : Int) = (0 : Int))) = true then
  some none
  else
  (Pl.at_ t1 (0 : Int)).bind fun t2 =>
  (Pl.at_ t1 (0 : Int)).bind fun t3 =>
  (Pl.forN (fun (x6 : (List Int)) (s4 : (List Int) × (List Int)) =>
  (Pl.at_ x6 (1 : Int)).bind fun t7 =>
  (Pl.at_ s4.1 (3 : Int)).bind fun t8 =>
  (Pl.mul t7 t8).bind fun t9 =>
  (Pl.at_ s4.1 (1 : Int)).bind fun t10 =>
  (Pl.at_ x6 (3 : Int)).bind fun t11 =>
  (Pl.mul t10 t11).bind fun t12 =>
  ((if (decide (t9 < t12)) = true then
  some (x6)
  else
  some (s4.1)) : Option ((List Int))).bind fun j13 =>
  (Pl.at_ x6 (1 : Int)).bind fun t14 =>
  (Pl.at_ s4.2 (3 : Int)).bind fun t15 =>
  (Pl.mul t14 t15).bind fun t16 =>
  (Pl.at_ s4.2 (1 : Int)).bind fun t17 =>
  (Pl.at_ x6 (3 : Int)).bind fun t18 =>
  (Pl.mul t17 t18).bind fun t19 =>
  ((if (decide (t19 < t16)) = true then
  some (x6)
  else
  some (s4.2)) : Option ((List Int))).bind fun j20 =>
  some (j13, j20)) t1 (t2, t3)).bind fun (s4 : (List Int) × (List Int)) =>
  (Pl.at_ s4.1 (1 : Int)).bind fun t21 =>
  (Pl.at_ s4.1 (3 : Int)).bind fun t22 =>
  (Pl.at_ s4.2 (1 : Int)).bind fun t23 =>
  (Pl.at_ s4.2 (3 : Int)).bind fun t24 =>
  some (some [(t21, t22), (t23, t24)]))
theorem q_law_extent {v_triangle_here : (List (Int × Int × Int))} {v_x0 : Int} {v_z0 : Int} {v_x1 : Int} {v_z1 : Int} (h : List D) {r : (Option (List (Int × Int)))} (hr : p_law_extent v_triangle_here v_x0 v_z0 v_x1 v_z1 = some r) : m_law_extent [(eU (e3 eI eI eI)) v_triangle_here, eI v_x0, eI v_z0, eI v_x1, eI v_z1] h = some ((eO (eL (e2 eI eI))) r, h) := by
  refine Rf.fn (o := p_law_extent v_triangle_here v_x0 v_z0 v_x1 v_z1) (e := (eO (eL (e2 eI eI)))) (hp := (fun _ : (Option (List (Int × Int))) => h)) (s := [.val ((eU (e3 eI eI eI)) v_triangle_here), .val (eI v_x0), .val (eI v_z0), .val (eI v_x1), .val (eI v_z1), .no, .no, .no, .no]) rfl rfl ?_ hr
  unfold p_law_extent b_law_extent
  refine Rf.bd fun t1 h_t1 => ?_
  refine Rf.set0 (d := (eL (eU eI)) t1) (ev_call (ev_args (ev_var rfl) (ev_args (ev_var rfl) (ev_args (ev_var rfl) (ev_args (ev_var rfl) (ev_args (ev_var rfl) ev_args0 rfl) rfl) rfl) rfl) rfl) (q_law_over _ h_t1)) rfl (sl_s (sl_s (sl_s (sl_s (sl_s sl_z))))) ?_
  refine Rf.ite (tv (ev_eqI (ev_blt1 (ev_var rfl) (F_lenM (e := (eU eI)) rfl)) ev_c)) ?_ ?_
  · exact Rf.ret ev_c (by first | rfl | exact pureO (fun _ => rfl) _) ⟨.inl rfl, rfl⟩
  · refine Rf.skip ?_
    refine Rf.bd fun t2 h_t2 => ?_
    refine Rf.set0 (d := (eU eI) t2) (ev_ixP (e := (eU eI)) (ev_var rfl) ev_c rfl h_t2) rfl (sl_s (sl_s (sl_s (sl_s (sl_s (sl_s sl_z)))))) ?_
    refine Rf.bd fun t3 h_t3 => ?_
    refine Rf.set0 (d := (eU eI) t3) (ev_ixP (e := (eU eI)) (ev_var rfl) ev_c rfl h_t3) rfl (sl_s (sl_s (sl_s (sl_s (sl_s (sl_s (sl_s sl_z))))))) ?_
    refine Rf.thn (fun (s4 : (List Int) × (List Int)) z' => ∃ X5 : Option D, z' = ⟨[.val ((eU (e3 eI eI eI)) v_triangle_here), .val (eI v_x0), .val (eI v_z0), .val (eI v_x1), .val (eI v_z1), .val ((eL (eU eI)) t1), .val ((eU eI) s4.1), .val ((eU eI) s4.2), (sv X5)], h⟩) (Rf.forN (xs := t1) (v := (t2, t3)) (eU eI) (fun (s4 : (List Int) × (List Int)) z' => ∃ X5 : Option D, z' = ⟨[.val ((eU (e3 eI eI eI)) v_triangle_here), .val (eI v_x0), .val (eI v_z0), .val (eI v_x1), .val (eI v_z1), .val ((eL (eU eI)) t1), .val ((eU eI) s4.1), .val ((eU eI) s4.2), (sv X5)], h⟩) (ev_itsP (e := (eU eI)) (xs := t1) (ev_var rfl) rfl) ⟨none, rfl⟩ fun x6 s4 z' hz => ?_) ?_
    · obtain ⟨X5, rfl⟩ := hz
      refine ⟨_, (gr_nm (sl_s (sl_s (sl_s (sl_s (sl_s (sl_s (sl_s (sl_s sl_z))))))))), ?_⟩
      refine Rf.bd fun t7 h_t7 => ?_
      refine Rf.bd fun t8 h_t8 => ?_
      refine Rf.bd fun t9 h_t9 => ?_
      refine Rf.bd fun t10 h_t10 => ?_
      refine Rf.bd fun t11 h_t11 => ?_
      refine Rf.bd fun t12 h_t12 => ?_
      refine Rf.thn (β := (List Int)) (fun j13 z' => z' = ⟨[.val ((eU (e3 eI eI eI)) v_triangle_here), .val (eI v_x0), .val (eI v_z0), .val (eI v_x1), .val (eI v_z1), .val ((eL (eU eI)) t1), .val ((eU eI) j13), .val ((eU eI) s4.2), .val ((eU eI) x6)], h⟩) ?_ ?_
      · refine Rf.last ?_
        refine Rf.ite (tv (ev_lt (ev_mulP (ev_ixP (e := eI) (ev_var rfl) ev_c rfl h_t7) (ev_ixP (e := eI) (ev_var rfl) ev_c rfl h_t8) h_t9) (ev_mulP (ev_ixP (e := eI) (ev_var rfl) ev_c rfl h_t10) (ev_ixP (e := eI) (ev_var rfl) ev_c rfl h_t11) h_t12))) ?_ ?_
        · refine Rf.set0 (d := (eU eI) x6) (ev_var rfl) rfl (sl_s (sl_s (sl_s (sl_s (sl_s (sl_s sl_z)))))) ?_
          exact Rf.fin ⟨rfl, rfl⟩
        · refine Rf.skip ?_
          exact Rf.fin ⟨rfl, rfl⟩
      · rintro j13 _ ⟨rfl⟩
        refine Rf.last ?_
        refine Rf.bd fun t14 h_t14 => ?_
        refine Rf.bd fun t15 h_t15 => ?_
        refine Rf.bd fun t16 h_t16 => ?_
        refine Rf.bd fun t17 h_t17 => ?_
        refine Rf.bd fun t18 h_t18 => ?_
        refine Rf.bd fun t19 h_t19 => ?_
        refine Rf.thn (β := (List Int)) (fun j20 z' => z' = ⟨[.val ((eU (e3 eI eI eI)) v_triangle_here), .val (eI v_x0), .val (eI v_z0), .val (eI v_x1), .val (eI v_z1), .val ((eL (eU eI)) t1), .val ((eU eI) j13), .val ((eU eI) j20), .val ((eU eI) x6)], h⟩) ?_ ?_
        · refine Rf.last ?_
          refine Rf.ite (tv (ev_gt (ev_mulP (ev_ixP (e := eI) (ev_var rfl) ev_c rfl h_t14) (ev_ixP (e := eI) (ev_var rfl) ev_c rfl h_t15) h_t16) (ev_mulP (ev_ixP (e := eI) (ev_var rfl) ev_c rfl h_t17) (ev_ixP (e := eI) (ev_var rfl) ev_c rfl h_t18) h_t19))) ?_ ?_
          · refine Rf.set0 (d := (eU eI) x6) (ev_var rfl) rfl (sl_s (sl_s (sl_s (sl_s (sl_s (sl_s (sl_s sl_z))))))) ?_
            exact Rf.fin ⟨rfl, rfl⟩
          · refine Rf.skip ?_
            exact Rf.fin ⟨rfl, rfl⟩
        · rintro j20 _ ⟨rfl⟩
          exact Rf.fin ⟨.inl rfl, (some ((eU eI) x6)), rfl⟩
    · rintro s4 _ ⟨X5, rfl⟩
      refine Rf.last ?_
      refine Rf.bd fun t21 h_t21 => ?_
      refine Rf.bd fun t22 h_t22 => ?_
      refine Rf.bd fun t23 h_t23 => ?_
      refine Rf.bd fun t24 h_t24 => ?_
      exact Rf.ret (ev_frz (ev_disp (ev_args (ev_tup (ev_args (ev_ixP (e := eI) (ev_var rfl) ev_c rfl h_t21) (ev_args (ev_ixP (e := eI) (ev_var rfl) ev_c rfl h_t22) ev_args0 rfl) rfl)) (ev_args (ev_tup (ev_args (ev_ixP (e := eI) (ev_var rfl) ev_c rfl h_t23) (ev_args (ev_ixP (e := eI) (ev_var rfl) ev_c rfl h_t24) ev_args0 rfl) rfl)) ev_args0 rfl) rfl))) (by first | rfl | exact pureO (fun _ => rfl) _) ⟨.inl rfl, rfl⟩
def p_minus (v_p : (Int × Int × Int)) (v_q : (Int × Int × Int)) : (Int × Int × Int) :=
  ((v_p.1 - v_q.1), (v_p.2.1 - v_q.2.1), (v_p.2.2 - v_q.2.2))
theorem q_minus (v_p : (Int × Int × Int)) (v_q : (Int × Int × Int)) (h : List D) : m_minus [(e3 eI eI eI) v_p, (e3 eI eI eI) v_q] h = some ((e3 eI eI eI) (p_minus v_p v_q), h) := by
  refine Rf.fn (o := some (p_minus v_p v_q)) (e := (e3 eI eI eI)) (hp := fun _ => h) (s := [.val ((e3 eI eI eI) v_p), .val ((e3 eI eI eI) v_q)]) rfl rfl ?_ rfl
  unfold p_minus b_minus
  refine Rf.last ?_
  exact Rf.ret (ev_tup (ev_args (ev_sub (ev_ix (ev_var rfl) ev_c rfl rfl) (ev_ix (ev_var rfl) ev_c rfl rfl)) (ev_args (ev_sub (ev_ix (ev_var rfl) ev_c rfl rfl) (ev_ix (ev_var rfl) ev_c rfl rfl)) (ev_args (ev_sub (ev_ix (ev_var rfl) ev_c rfl rfl) (ev_ix (ev_var rfl) ev_c rfl rfl)) ev_args0 rfl) rfl) rfl)) rfl ⟨.inl rfl, rfl⟩
def p_normal (v_triangle : (List (Int × Int × Int))) : Option (Int × Int × Int) :=
  (Pl.at_ v_triangle (1 : Int)).bind fun t1 =>
  (Pl.at_ v_triangle (0 : Int)).bind fun t2 =>
  (some ((p_minus t1 t2))).bind fun v_u3 =>
  (Pl.at_ v_triangle (2 : Int)).bind fun t4 =>
  (Pl.at_ v_triangle (0 : Int)).bind fun t5 =>
  (some ((p_minus t4 t5))).bind fun v_v6 =>
  (Pl.mul v_u3.2.1 v_v6.2.2).bind fun t7 =>
  (Pl.mul v_u3.2.2 v_v6.2.1).bind fun t8 =>
  (Pl.mul v_u3.2.2 v_v6.1).bind fun t9 =>
  (Pl.mul v_u3.1 v_v6.2.2).bind fun t10 =>
  (Pl.mul v_u3.1 v_v6.2.1).bind fun t11 =>
  (Pl.mul v_u3.2.1 v_v6.1).bind fun t12 =>
  some ((t7 - t8), (t9 - t10), (t11 - t12))
theorem q_normal {v_triangle : (List (Int × Int × Int))} (h : List D) {r : (Int × Int × Int)} (hr : p_normal v_triangle = some r) : m_normal [(eU (e3 eI eI eI)) v_triangle] h = some ((e3 eI eI eI) r, h) := by
  refine Rf.fn (o := p_normal v_triangle) (e := (e3 eI eI eI)) (hp := (fun _ : (Int × Int × Int) => h)) (s := [.val ((eU (e3 eI eI eI)) v_triangle), .no, .no]) rfl rfl ?_ hr
  unfold p_normal b_normal
  refine Rf.bd fun t1 h_t1 => ?_
  refine Rf.bd fun t2 h_t2 => ?_
  refine Rf.setT (t := (p_minus t1 t2)) (e3 eI eI eI) (ev_call (ev_args (ev_ixP (e := (e3 eI eI eI)) (ev_var rfl) ev_c rfl h_t1) (ev_args (ev_ixP (e := (e3 eI eI eI)) (ev_var rfl) ev_c rfl h_t2) ev_args0 rfl) rfl) (q_minus t1 t2 h)) (fun _ => rfl) (fun _ => (sl_s sl_z)) fun v_u3 => ?_
  refine Rf.bd fun t4 h_t4 => ?_
  refine Rf.bd fun t5 h_t5 => ?_
  refine Rf.setT (t := (p_minus t4 t5)) (e3 eI eI eI) (ev_call (ev_args (ev_ixP (e := (e3 eI eI eI)) (ev_var rfl) ev_c rfl h_t4) (ev_args (ev_ixP (e := (e3 eI eI eI)) (ev_var rfl) ev_c rfl h_t5) ev_args0 rfl) rfl) (q_minus t4 t5 h)) (fun _ => rfl) (fun _ => (sl_s (sl_s sl_z))) fun v_v6 => ?_
  refine Rf.last ?_
  refine Rf.bd fun t7 h_t7 => ?_
  refine Rf.bd fun t8 h_t8 => ?_
  refine Rf.bd fun t9 h_t9 => ?_
  refine Rf.bd fun t10 h_t10 => ?_
  refine Rf.bd fun t11 h_t11 => ?_
  refine Rf.bd fun t12 h_t12 => ?_
  exact Rf.ret (ev_tup (ev_args (ev_sub (ev_mulP (ev_ix (ev_var rfl) ev_c rfl rfl) (ev_ix (ev_var rfl) ev_c rfl rfl) h_t7) (ev_mulP (ev_ix (ev_var rfl) ev_c rfl rfl) (ev_ix (ev_var rfl) ev_c rfl rfl) h_t8)) (ev_args (ev_sub (ev_mulP (ev_ix (ev_var rfl) ev_c rfl rfl) (ev_ix (ev_var rfl) ev_c rfl rfl) h_t9) (ev_mulP (ev_ix (ev_var rfl) ev_c rfl rfl) (ev_ix (ev_var rfl) ev_c rfl rfl) h_t10)) (ev_args (ev_sub (ev_mulP (ev_ix (ev_var rfl) ev_c rfl rfl) (ev_ix (ev_var rfl) ev_c rfl rfl) h_t11) (ev_mulP (ev_ix (ev_var rfl) ev_c rfl rfl) (ev_ix (ev_var rfl) ev_c rfl rfl) h_t12)) ev_args0 rfl) rfl) rfl)) rfl ⟨.inl rfl, rfl⟩
def p_positive (v_number : Int) (v_den : Int) : (Int × Int) :=
  (if (decide (v_den < (0 : Int))) = true then
  ((-v_number), (-v_den))
  else
  (v_number, v_den))
theorem q_positive (v_number : Int) (v_den : Int) (h : List D) : m_positive [eI v_number, eI v_den] h = some ((e2 eI eI) (p_positive v_number v_den), h) := by
  refine Rf.fn (o := some (p_positive v_number v_den)) (e := (e2 eI eI)) (hp := fun _ => h) (s := [.val (eI v_number), .val (eI v_den)]) rfl rfl ?_ rfl
  unfold p_positive b_positive
  refine Rf.iteT (tv (ev_lt (ev_var rfl) ev_c)) ?_ ?_
  · exact Rf.ret (ev_tup (ev_args (ev_neg (ev_var rfl)) (ev_args (ev_neg (ev_var rfl)) ev_args0 rfl) rfl)) rfl ⟨.inl rfl, rfl⟩
  · refine Rf.skip ?_
    refine Rf.last ?_
    exact Rf.ret (ev_tup (ev_args (ev_var rfl) (ev_args (ev_var rfl) ev_args0 rfl) rfl)) rfl ⟨.inl rfl, rfl⟩
def p_on_edge (v_p : (Int × Int × Int)) (v_q : (Int × Int × Int)) (v_axis : Int) (v_at : Int) (v_low : Int) (v_high : Int) : Option (Option (Int × Int)) :=
  (Pl.at_ [v_q.1, v_q.2.1, v_q.2.2] v_axis).bind fun t1 =>
  (Pl.at_ [v_p.1, v_p.2.1, v_p.2.2] v_axis).bind fun t2 =>
  (some ((t1 - t2))).bind fun v_den3 =>
  (Pl.orO (decide (v_den3 = (0 : Int))) ((Pl.at_ [v_p.1, v_p.2.1, v_p.2.2] v_axis).bind fun t4 => (Pl.at_ [v_q.1, v_q.2.1, v_q.2.2] v_axis).bind fun t5 => (Pl.andO (decide ((if t5 < t4 then t5 else t4) ≤ v_at)) ((Pl.at_ [v_p.1, v_p.2.1, v_p.2.2] v_axis).bind fun t6 => (Pl.at_ [v_q.1, v_q.2.1, v_q.2.2] v_axis).bind fun t7 => some (decide (v_at ≤ (if t7 > t6 then t7 else t6))))).bind fun t8 => some (!t8))).bind fun t9 =>
  (if t9 = true then
  some none
  else
  (Pl.at_ [v_p.1, v_p.2.1, v_p.2.2] v_axis).bind fun t10 =>
  (some ((v_at - t10))).bind fun v_way11 =>
  (Pl.at_ [v_p.1, v_p.2.1, v_p.2.2] ((2 : Int) - v_axis)).bind fun t12 =>
  (Pl.mul t12 v_den3).bind fun t13 =>
  (Pl.at_ [v_q.1, v_q.2.1, v_q.2.2] ((2 : Int) - v_axis)).bind fun t14 =>
  (Pl.at_ [v_p.1, v_p.2.1, v_p.2.2] ((2 : Int) - v_axis)).bind fun t15 =>
  (Pl.mul (t14 - t15) v_way11).bind fun t16 =>
  (some ((p_positive (t13 + t16) v_den3))).bind fun v_across17 =>
  (Pl.mul v_low v_across17.2).bind fun t18 =>
  (Pl.andO (decide (t18 ≤ v_across17.1)) ((Pl.mul v_high v_across17.2).bind fun t19 => some (decide (v_across17.1 ≤ t19)))).bind fun t20 =>
  (if (!t20) = true then
  some none
  else
  (Pl.mul v_p.2.1 v_den3).bind fun t21 =>
  (Pl.mul (v_q.2.1 - v_p.2.1) v_way11).bind fun t22 =>
  some (some (p_positive (t21 + t22) v_den3))))
theorem q_on_edge {v_p : (Int × Int × Int)} {v_q : (Int × Int × Int)} {v_axis : Int} {v_at : Int} {v_low : Int} {v_high : Int} (h : List D) {r : (Option (Int × Int))} (hr : p_on_edge v_p v_q v_axis v_at v_low v_high = some r) : m_on_edge [(e3 eI eI eI) v_p, (e3 eI eI eI) v_q, eI v_axis, eI v_at, eI v_low, eI v_high] h = some ((eO (e2 eI eI)) r, h) := by
  refine Rf.fn (o := p_on_edge v_p v_q v_axis v_at v_low v_high) (e := (eO (e2 eI eI))) (hp := (fun _ : (Option (Int × Int)) => h)) (s := [.val ((e3 eI eI eI) v_p), .val ((e3 eI eI eI) v_q), .val (eI v_axis), .val (eI v_at), .val (eI v_low), .val (eI v_high), .no, .no, .no]) rfl rfl ?_ hr
  unfold p_on_edge b_on_edge
  refine Rf.bd fun t1 h_t1 => ?_
  refine Rf.bd fun t2 h_t2 => ?_
  refine Rf.setT (t := (t1 - t2)) eI (ev_sub (ev_ixP (e := eI) (xs := [v_q.1, v_q.2.1, v_q.2.2]) (ev_var rfl) (ev_var rfl) rfl h_t1) (ev_ixP (e := eI) (xs := [v_p.1, v_p.2.1, v_p.2.2]) (ev_var rfl) (ev_var rfl) rfl h_t2)) (fun _ => rfl) (fun _ => (sl_s (sl_s (sl_s (sl_s (sl_s (sl_s sl_z))))))) fun v_den3 => ?_
  refine Rf.bd fun t9 h_t9 => ?_
  refine Rf.ite (tt_orO (tv (ev_eqI (ev_var rfl) ev_c)) (fun q hq => by obtain ⟨t4, h_t4, hq⟩ := bI hq; obtain ⟨t5, h_t5, hq⟩ := bI hq; obtain ⟨t8, h_t8, hq⟩ := bI hq; cases hq; exact (tt_not (tv (ev_chainO (ev_blt2 (ev_args (ev_ixP (e := eI) (xs := [v_p.1, v_p.2.1, v_p.2.2]) (ev_var rfl) (ev_var rfl) rfl h_t4) (ev_args (ev_ixP (e := eI) (xs := [v_q.1, v_q.2.1, v_q.2.2]) (ev_var rfl) (ev_var rfl) rfl h_t5) ev_args0 rfl) rfl) lf_min2) (ev_var rfl) rfl (fun q hq => by obtain ⟨t6, h_t6, hq⟩ := bI hq; obtain ⟨t7, h_t7, hq⟩ := bI hq; cases hq; exact ⟨_, (ev_blt2 (ev_args (ev_ixP (e := eI) (xs := [v_p.1, v_p.2.1, v_p.2.2]) (ev_var rfl) (ev_var rfl) rfl h_t6) (ev_args (ev_ixP (e := eI) (xs := [v_q.1, v_q.2.1, v_q.2.2]) (ev_var rfl) (ev_var rfl) rfl h_t7) ev_args0 rfl) rfl) lf_max2), rfl⟩) h_t8)))) h_t9) ?_ ?_
  · exact Rf.ret ev_c (by first | rfl | exact pureO (fun _ => rfl) _) ⟨.inl rfl, rfl⟩
  · refine Rf.skip ?_
    refine Rf.bd fun t10 h_t10 => ?_
    refine Rf.setT (t := (v_at - t10)) eI (ev_sub (ev_var rfl) (ev_ixP (e := eI) (xs := [v_p.1, v_p.2.1, v_p.2.2]) (ev_var rfl) (ev_var rfl) rfl h_t10)) (fun _ => rfl) (fun _ => (sl_s (sl_s (sl_s (sl_s (sl_s (sl_s (sl_s sl_z)))))))) fun v_way11 => ?_
    refine Rf.bd fun t12 h_t12 => ?_
    refine Rf.bd fun t13 h_t13 => ?_
    refine Rf.bd fun t14 h_t14 => ?_
    refine Rf.bd fun t15 h_t15 => ?_
    refine Rf.bd fun t16 h_t16 => ?_
    refine Rf.setT (t := (p_positive (t13 + t16) v_den3)) (e2 eI eI) (ev_call (ev_args (ev_add (ev_mulP (ev_ixP (e := eI) (xs := [v_p.1, v_p.2.1, v_p.2.2]) (ev_var rfl) (ev_sub ev_c (ev_var rfl)) rfl h_t12) (ev_var rfl) h_t13) (ev_mulP (ev_sub (ev_ixP (e := eI) (xs := [v_q.1, v_q.2.1, v_q.2.2]) (ev_var rfl) (ev_sub ev_c (ev_var rfl)) rfl h_t14) (ev_ixP (e := eI) (xs := [v_p.1, v_p.2.1, v_p.2.2]) (ev_var rfl) (ev_sub ev_c (ev_var rfl)) rfl h_t15)) (ev_var rfl) h_t16)) (ev_args (ev_var rfl) ev_args0 rfl) rfl) (q_positive (t13 + t16) v_den3 h)) (fun _ => rfl) (fun _ => (sl_s (sl_s (sl_s (sl_s (sl_s (sl_s (sl_s (sl_s sl_z))))))))) fun v_across17 => ?_
    refine Rf.bd fun t18 h_t18 => ?_
    refine Rf.bd fun t20 h_t20 => ?_
    refine Rf.ite (tt_not (tv (ev_chainO (ev_mulP (ev_var rfl) (ev_ix (ev_var rfl) ev_c rfl rfl) h_t18) (ev_ix (ev_var rfl) ev_c rfl rfl) rfl (fun q hq => by obtain ⟨t19, h_t19, hq⟩ := bI hq; cases hq; exact ⟨_, (ev_mulP (ev_var rfl) (ev_ix (ev_var rfl) ev_c rfl rfl) h_t19), rfl⟩) h_t20))) ?_ ?_
    · exact Rf.ret ev_c (by first | rfl | exact pureO (fun _ => rfl) _) ⟨.inl rfl, rfl⟩
    · refine Rf.skip ?_
      refine Rf.last ?_
      refine Rf.bd fun t21 h_t21 => ?_
      refine Rf.bd fun t22 h_t22 => ?_
      exact Rf.ret (ev_call (ev_args (ev_add (ev_mulP (ev_ix (ev_var rfl) ev_c rfl rfl) (ev_var rfl) h_t21) (ev_mulP (ev_sub (ev_ix (ev_var rfl) ev_c rfl rfl) (ev_ix (ev_var rfl) ev_c rfl rfl)) (ev_var rfl) h_t22)) (ev_args (ev_var rfl) ev_args0 rfl) rfl) (q_positive (t21 + t22) v_den3 h)) (by first | rfl | exact pureO (fun _ => rfl) _) ⟨.inl rfl, rfl⟩
def p_side (v_p : (Int × Int × Int)) (v_q : (Int × Int × Int)) (v_x : Int) (v_z : Int) : Option Int :=
  (Pl.mul (v_q.1 - v_p.1) (v_z - v_p.2.2)).bind fun t1 =>
  (Pl.mul (v_q.2.2 - v_p.2.2) (v_x - v_p.1)).bind fun t2 =>
  some (t1 - t2)
theorem q_side {v_p : (Int × Int × Int)} {v_q : (Int × Int × Int)} {v_x : Int} {v_z : Int} (h : List D) {r : Int} (hr : p_side v_p v_q v_x v_z = some r) : m_side [(e3 eI eI eI) v_p, (e3 eI eI eI) v_q, eI v_x, eI v_z] h = some (eI r, h) := by
  refine Rf.fn (o := p_side v_p v_q v_x v_z) (e := eI) (hp := (fun _ : Int => h)) (s := [.val ((e3 eI eI eI) v_p), .val ((e3 eI eI eI) v_q), .val (eI v_x), .val (eI v_z)]) rfl rfl ?_ hr
  unfold p_side b_side
  refine Rf.last ?_
  refine Rf.bd fun t1 h_t1 => ?_
  refine Rf.bd fun t2 h_t2 => ?_
  exact Rf.ret (ev_sub (ev_mulP (ev_sub (ev_ix (ev_var rfl) ev_c rfl rfl) (ev_ix (ev_var rfl) ev_c rfl rfl)) (ev_sub (ev_var rfl) (ev_ix (ev_var rfl) ev_c rfl rfl)) h_t1) (ev_mulP (ev_sub (ev_ix (ev_var rfl) ev_c rfl rfl) (ev_ix (ev_var rfl) ev_c rfl rfl)) (ev_sub (ev_var rfl) (ev_ix (ev_var rfl) ev_c rfl rfl)) h_t2)) rfl ⟨.inl rfl, rfl⟩
def p_at_corner (v_triangle : (List (Int × Int × Int))) (v_up : (Int × Int × Int)) (v_x : Int) (v_z : Int) : Option (Option (Int × Int)) :=
  (if (decide (v_up.2.1 = (0 : Int))) = true then
  some none
  else
  (Pl.rngO 0 (3 : Int)).bind fun t1 =>
  (Pl.comp (fun (x2 : Int) => (some true)) (fun (x2 : Int) => ((Pl.at_ v_triangle x2).bind fun t3 => (Pl.mod (x2 + (1 : Int)) (3 : Int)).bind fun t4 => (Pl.at_ v_triangle t4).bind fun t5 => (p_side t3 t5 v_x v_z).bind fun t6 => some t6)) t1).bind fun t7 =>
  (F.minL t7).bind fun t8 =>
  (Pl.andO (decide (t8 < (0 : Int))) ((F.maxL t7).bind fun t9 => some (decide ((0 : Int) < t9)))).bind fun t10 =>
  (if t10 = true then
  some none
  else
  (Pl.at_ v_triangle (0 : Int)).bind fun t11 =>
  (Pl.mul t11.2.1 v_up.2.1).bind fun t12 =>
  (Pl.mul v_up.1 (v_x - t11.1)).bind fun t13 =>
  (Pl.mul v_up.2.2 (v_z - t11.2.2)).bind fun t14 =>
  some (some (p_positive ((t12 - t13) - t14) v_up.2.1))))
theorem q_at_corner {v_triangle : (List (Int × Int × Int))} {v_up : (Int × Int × Int)} {v_x : Int} {v_z : Int} (h : List D) {r : (Option (Int × Int))} (hr : p_at_corner v_triangle v_up v_x v_z = some r) : m_at_corner [(eU (e3 eI eI eI)) v_triangle, (e3 eI eI eI) v_up, eI v_x, eI v_z] h = some ((eO (e2 eI eI)) r, h) := by
  refine Rf.fn (o := p_at_corner v_triangle v_up v_x v_z) (e := (eO (e2 eI eI))) (hp := (fun _ : (Option (Int × Int)) => h)) (s := [.val ((eU (e3 eI eI eI)) v_triangle), .val ((e3 eI eI eI) v_up), .val (eI v_x), .val (eI v_z), .no, .no, .no]) rfl rfl ?_ hr
  unfold p_at_corner b_at_corner
  refine Rf.ite (tv (ev_eqI (ev_ix (ev_var rfl) ev_c rfl rfl) ev_c)) ?_ ?_
  · exact Rf.ret ev_c (by first | rfl | exact pureO (fun _ => rfl) _) ⟨.inl rfl, rfl⟩
  · refine Rf.skip ?_
    refine Rf.bd fun t1 h_t1 => ?_
    refine Rf.bd fun t7 h_t7 => ?_
    refine Rf.set0 (d := (eL eI) t7) (ev_frz (ev_cmp eI eI (s := [.val ((eU (e3 eI eI eI)) v_triangle), .val ((e3 eI eI eI) v_up), .val (eI v_x), .val (eI v_z), .no, .no, .no]) (s' := [.val ((eU (e3 eI eI eI)) v_triangle), .val ((e3 eI eI eI) v_up), .val (eI v_x), .val (eI v_z), .no, .no, .no]) (s2 := [.val ((eU (e3 eI eI eI)) v_triangle), .val ((e3 eI eI eI) v_up), .val (eI v_x), .val (eI v_z), .no, .no, .no]) (ev_rngP1 ev_c h_t1) rfl rfl rfl rfl (fun x2 => ⟨_, _, (gr_nm (sl_s (sl_s (sl_s (sl_s (sl_s sl_z)))))), fun b hb => by cases hb; exact ev_true, rfl, fun y hy => by obtain ⟨t3, h_t3, hy⟩ := bI hy; obtain ⟨t4, h_t4, hy⟩ := bI hy; obtain ⟨t5, h_t5, hy⟩ := bI hy; obtain ⟨t6, h_t6, hy⟩ := bI hy; cases hy; exact ⟨_, (ev_call (ev_args (ev_ixP (e := (e3 eI eI eI)) (ev_var rfl) (ev_var rfl) rfl h_t3) (ev_args (ev_ixP (e := (e3 eI eI eI)) (ev_var rfl) (ev_modP (ev_add (ev_var rfl) ev_c) ev_c h_t4) rfl h_t5) (ev_args (ev_var rfl) (ev_args (ev_var rfl) ev_args0 rfl) rfl) rfl) rfl) (q_side _ h_t6)), rfl, rfl⟩⟩) h_t7)) rfl (sl_s (sl_s (sl_s (sl_s sl_z)))) ?_
    refine Rf.bd fun t8 h_t8 => ?_
    refine Rf.bd fun t10 h_t10 => ?_
    refine Rf.ite (tv (ev_chainO (ev_blt1 (ev_var rfl) (F_minR rfl h_t8)) ev_c rfl (fun q hq => by obtain ⟨t9, h_t9, hq⟩ := bI hq; cases hq; exact ⟨_, (ev_blt1 (ev_var rfl) (F_maxR rfl h_t9)), rfl⟩) h_t10)) ?_ ?_
    · exact Rf.ret ev_c (by first | rfl | exact pureO (fun _ => rfl) _) ⟨.inl rfl, rfl⟩
    · refine Rf.skip ?_
      refine Rf.bd fun t11 h_t11 => ?_
      refine Rf.set0 (d := (e3 eI eI eI) t11) (ev_ixP (e := (e3 eI eI eI)) (ev_var rfl) ev_c rfl h_t11) rfl (sl_s (sl_s (sl_s (sl_s (sl_s (sl_s sl_z)))))) ?_
      refine Rf.last ?_
      refine Rf.bd fun t12 h_t12 => ?_
      refine Rf.bd fun t13 h_t13 => ?_
      refine Rf.bd fun t14 h_t14 => ?_
      exact Rf.ret (ev_call (ev_args (ev_sub (ev_sub (ev_mulP (ev_ix (ev_var rfl) ev_c rfl rfl) (ev_ix (ev_var rfl) ev_c rfl rfl) h_t12) (ev_mulP (ev_ix (ev_var rfl) ev_c rfl rfl) (ev_sub (ev_var rfl) (ev_ix (ev_var rfl) ev_c rfl rfl)) h_t13)) (ev_mulP (ev_ix (ev_var rfl) ev_c rfl rfl) (ev_sub (ev_var rfl) (ev_ix (ev_var rfl) ev_c rfl rfl)) h_t14)) (ev_args (ev_ix (ev_var rfl) ev_c rfl rfl) ev_args0 rfl) rfl) (q_positive ((t12 - t13) - t14) v_up.2.1 h)) (by first | rfl | exact pureO (fun _ => rfl) _) ⟨.inl rfl, rfl⟩
def p_heights (v_triangle : (List (Int × Int × Int))) (v_x0 : Int) (v_z0 : Int) (v_x1 : Int) (v_z1 : Int) : Option (List (Int × Int)) :=
  (p_normal v_triangle).bind fun t1 =>
  (Pl.rngO 0 (3 : Int)).bind fun t2 =>
  (Pl.forN (fun (x7 : Int) (s3 : (List (Option (Int × Int)))) =>
  (Pl.at_ v_triangle x7).bind fun t8 =>
  (Pl.mod (x7 + (1 : Int)) (3 : Int)).bind fun t9 =>
  (Pl.at_ v_triangle t9).bind fun t10 =>
  ((if (((decide (v_x0 ≤ t8.1)) && (decide (t8.1 ≤ v_x1))) && ((decide (v_z0 ≤ t8.2.2)) && (decide (t8.2.2 ≤ v_z1)))) = true then
  (Pl.app s3 (some (t8.2.1, (1 : Int)))).bind fun v_found12 =>
  some (v_found12)
  else
  some (s3)) : Option ((List (Option (Int × Int))))).bind fun j11 =>
  (Pl.comp (fun (x13 : Int) => (some true)) (fun (x13 : Int) => ((p_on_edge t8 t10 (0 : Int) x13 v_z0 v_z1).bind fun t14 => some t14)) [((v_x0, v_x1)).1, ((v_x0, v_x1)).2]).bind fun t15 =>
  (Pl.cat j11 t15).bind fun v_found16 =>
  (Pl.comp (fun (x17 : Int) => (some true)) (fun (x17 : Int) => ((p_on_edge t8 t10 (2 : Int) x17 v_x0 v_x1).bind fun t18 => some t18)) [((v_z0, v_z1)).1, ((v_z0, v_z1)).2]).bind fun t19 =>
  (Pl.cat v_found16 t19).bind fun v_found20 =>
  some (v_found20)) t2 (([] : List (Option (Int × Int))))).bind fun (s3 : (List (Option (Int × Int)))) =>
  (Pl.forN (fun (x23 : Int) (s21 : (List (Option (Int × Int)))) =>
  (Pl.comp (fun (x24 : Int) => (some true)) (fun (x24 : Int) => ((p_at_corner v_triangle t1 x23 x24).bind fun t25 => some t25)) [((v_z0, v_z1)).1, ((v_z0, v_z1)).2]).bind fun t26 =>
  (Pl.cat s21 t26).bind fun v_found27 =>
  some (v_found27)) [((v_x0, v_x1)).1, ((v_x0, v_x1)).2] (s3)).bind fun (s21 : (List (Option (Int × Int)))) =>
  (Pl.comp (fun (x28 : (Option (Int × Int))) => (some x28.isSome)) (fun (x28 : (Option (Int × Int))) => ((x28).bind fun t29 => some t29)) s21).bind fun t30 =>
  some t30
theorem q_heights {v_triangle : (List (Int × Int × Int))} {v_x0 : Int} {v_z0 : Int} {v_x1 : Int} {v_z1 : Int} (h : List D) {r : (List (Int × Int))} (hr : p_heights v_triangle v_x0 v_z0 v_x1 v_z1 = some r) : m_heights [(eU (e3 eI eI eI)) v_triangle, eI v_x0, eI v_z0, eI v_x1, eI v_z1] h = some ((eL (e2 eI eI)) r, h) := by
  refine Rf.fn (o := p_heights v_triangle v_x0 v_z0 v_x1 v_z1) (e := (eL (e2 eI eI))) (hp := (fun _ : (List (Int × Int)) => h)) (s := [.val ((eU (e3 eI eI eI)) v_triangle), .val (eI v_x0), .val (eI v_z0), .val (eI v_x1), .val (eI v_z1), .no, .no, .no, .no, .no, .no, .no, .no, .no]) rfl rfl ?_ hr
  unfold p_heights b_heights
  refine Rf.own0 (ds := List.map (eO (e2 eI eI)) ([] : List (Option (Int × Int)))) (ev_disp ev_args0) (Nat.le_of_ble_eq_true rfl) (sl_s (sl_s (sl_s (sl_s (sl_s sl_z))))) ?_
  refine Rf.bd fun t1 h_t1 => ?_
  refine Rf.set0 (d := (e3 eI eI eI) t1) (ev_call (ev_args (ev_var rfl) ev_args0 rfl) (q_normal _ h_t1)) rfl (sl_s (sl_s (sl_s (sl_s (sl_s (sl_s sl_z)))))) ?_
  refine Rf.bd fun t2 h_t2 => ?_
  refine Rf.thn (fun (s3 : (List (Option (Int × Int)))) z' => ∃ X4 : Option D, ∃ X5 : Option D, ∃ X6 : Option D, z' = ⟨[.val ((eU (e3 eI eI eI)) v_triangle), .val (eI v_x0), .val (eI v_z0), .val (eI v_x1), .val (eI v_z1), .own (.lst (List.map (eO (e2 eI eI)) s3)), .val ((e3 eI eI eI) t1), (sv X4), (sv X5), (sv X6), .no, .no, .no, .no], h⟩) (Rf.forN (xs := t2) (v := (([] : List (Option (Int × Int))))) eI (fun (s3 : (List (Option (Int × Int)))) z' => ∃ X4 : Option D, ∃ X5 : Option D, ∃ X6 : Option D, z' = ⟨[.val ((eU (e3 eI eI eI)) v_triangle), .val (eI v_x0), .val (eI v_z0), .val (eI v_x1), .val (eI v_z1), .own (.lst (List.map (eO (e2 eI eI)) s3)), .val ((e3 eI eI eI) t1), (sv X4), (sv X5), (sv X6), .no, .no, .no, .no], h⟩) (ev_rngP1 ev_c h_t2) ⟨none, none, none, rfl⟩ fun x7 s3 z' hz => ?_) ?_
  · obtain ⟨X4, X5, X6, rfl⟩ := hz
    refine ⟨_, (gr_nm (sl_s (sl_s (sl_s (sl_s (sl_s (sl_s (sl_s sl_z)))))))), ?_⟩
    refine Rf.bd fun t8 h_t8 => ?_
    refine Rf.set0 (d := (e3 eI eI eI) t8) (ev_ixP (e := (e3 eI eI eI)) (ev_var rfl) (ev_var rfl) rfl h_t8) rfl (sl_s (sl_s (sl_s (sl_s (sl_s (sl_s (sl_s (sl_s sl_z)))))))) ?_
    refine Rf.bd fun t9 h_t9 => ?_
    refine Rf.bd fun t10 h_t10 => ?_
    refine Rf.set0 (d := (e3 eI eI eI) t10) (ev_ixP (e := (e3 eI eI eI)) (ev_var rfl) (ev_modP (ev_add (ev_var rfl) ev_c) ev_c h_t9) rfl h_t10) rfl (sl_s (sl_s (sl_s (sl_s (sl_s (sl_s (sl_s (sl_s (sl_s sl_z))))))))) ?_
    refine Rf.thn (β := (List (Option (Int × Int)))) (fun j11 z' => z' = ⟨[.val ((eU (e3 eI eI eI)) v_triangle), .val (eI v_x0), .val (eI v_z0), .val (eI v_x1), .val (eI v_z1), .own (.lst (List.map (eO (e2 eI eI)) j11)), .val ((e3 eI eI eI) t1), .val (eI x7), .val ((e3 eI eI eI) t8), .val ((e3 eI eI eI) t10), .no, .no, .no, .no], h⟩) ?_ ?_
    · refine Rf.last ?_
      refine Rf.ite (tt_and (tv (ev_chain (ev_var rfl) (ev_ix (ev_var rfl) ev_c rfl rfl) rfl (fun _ => (ev_var rfl)) (fun _ => rfl))) fun _ => (tv (ev_chain (ev_var rfl) (ev_ix (ev_var rfl) ev_c rfl rfl) rfl (fun _ => (ev_var rfl)) (fun _ => rfl)))) ?_ ?_
      · refine Rf.app (xs := s3) (t := (some (t8.2.1, (1 : Int)))) (eO (e2 eI eI)) rfl (ev_tup (ev_args (ev_ix (ev_var rfl) ev_c rfl rfl) (ev_args ev_c ev_args0 rfl) rfl)) (by first | rfl | exact pureO (fun _ => rfl) _) (fun _ => (sl_s (sl_s (sl_s (sl_s (sl_s sl_z)))))) fun v_found12 => ?_
        exact Rf.fin ⟨rfl, rfl⟩
      · refine Rf.skip ?_
        exact Rf.fin ⟨rfl, rfl⟩
    · rintro j11 _ ⟨rfl⟩
      refine Rf.bd fun t15 h_t15 => ?_
      refine Rf.ext (xs := j11) (t := t15) (eO (e2 eI eI)) rfl (ev_frz (ev_cmp eI (eO (e2 eI eI)) (s := [.val ((eU (e3 eI eI eI)) v_triangle), .val (eI v_x0), .val (eI v_z0), .val (eI v_x1), .val (eI v_z1), .own (.lst (List.map (eO (e2 eI eI)) j11)), .val ((e3 eI eI eI) t1), .val (eI x7), .val ((e3 eI eI eI) t8), .val ((e3 eI eI eI) t10), .no, .no, .no, .no]) (s' := [.val ((eU (e3 eI eI eI)) v_triangle), .val (eI v_x0), .val (eI v_z0), .val (eI v_x1), .val (eI v_z1), .own (.lst (List.map (eO (e2 eI eI)) j11)), .val ((e3 eI eI eI) t1), .val (eI x7), .val ((e3 eI eI eI) t8), .val ((e3 eI eI eI) t10), .no, .no, .no, .no]) (s2 := [.val ((eU (e3 eI eI eI)) v_triangle), .val (eI v_x0), .val (eI v_z0), .val (eI v_x1), .val (eI v_z1), .own (.lst (List.map (eO (e2 eI eI)) j11)), .val ((e3 eI eI eI) t1), .val (eI x7), .val ((e3 eI eI eI) t8), .val ((e3 eI eI eI) t10), .no, .no, .no, .no]) (ev_itsC (e := eI) (xs := [((v_x0, v_x1)).1, ((v_x0, v_x1)).2]) (ev_tup (ev_args (ev_var rfl) (ev_args (ev_var rfl) ev_args0 rfl) rfl)) rfl) rfl rfl rfl rfl (fun x13 => ⟨_, _, (gr_nm (sl_s (sl_s (sl_s (sl_s (sl_s (sl_s (sl_s (sl_s (sl_s (sl_s sl_z))))))))))), fun b hb => by cases hb; exact ev_true, rfl, fun y hy => by obtain ⟨t14, h_t14, hy⟩ := bI hy; cases hy; exact ⟨_, (ev_call (ev_args (ev_var rfl) (ev_args (ev_var rfl) (ev_args ev_c (ev_args (ev_var rfl) (ev_args (ev_var rfl) (ev_args (ev_var rfl) ev_args0 rfl) rfl) rfl) rfl) rfl) rfl) (q_on_edge _ h_t14)), (by first | rfl | exact pureO (fun _ => rfl) _), rfl⟩⟩) h_t15)) (fun _ => (sl_s (sl_s (sl_s (sl_s (sl_s sl_z)))))) fun v_found16 => ?_
      refine Rf.last ?_
      refine Rf.bd fun t19 h_t19 => ?_
      refine Rf.ext (xs := v_found16) (t := t19) (eO (e2 eI eI)) rfl (ev_frz (ev_cmp eI (eO (e2 eI eI)) (s := [.val ((eU (e3 eI eI eI)) v_triangle), .val (eI v_x0), .val (eI v_z0), .val (eI v_x1), .val (eI v_z1), .own (.lst (List.map (eO (e2 eI eI)) v_found16)), .val ((e3 eI eI eI) t1), .val (eI x7), .val ((e3 eI eI eI) t8), .val ((e3 eI eI eI) t10), .no, .no, .no, .no]) (s' := [.val ((eU (e3 eI eI eI)) v_triangle), .val (eI v_x0), .val (eI v_z0), .val (eI v_x1), .val (eI v_z1), .own (.lst (List.map (eO (e2 eI eI)) v_found16)), .val ((e3 eI eI eI) t1), .val (eI x7), .val ((e3 eI eI eI) t8), .val ((e3 eI eI eI) t10), .no, .no, .no, .no]) (s2 := [.val ((eU (e3 eI eI eI)) v_triangle), .val (eI v_x0), .val (eI v_z0), .val (eI v_x1), .val (eI v_z1), .own (.lst (List.map (eO (e2 eI eI)) v_found16)), .val ((e3 eI eI eI) t1), .val (eI x7), .val ((e3 eI eI eI) t8), .val ((e3 eI eI eI) t10), .no, .no, .no, .no]) (ev_itsC (e := eI) (xs := [((v_z0, v_z1)).1, ((v_z0, v_z1)).2]) (ev_tup (ev_args (ev_var rfl) (ev_args (ev_var rfl) ev_args0 rfl) rfl)) rfl) rfl rfl rfl rfl (fun x17 => ⟨_, _, (gr_nm (sl_s (sl_s (sl_s (sl_s (sl_s (sl_s (sl_s (sl_s (sl_s (sl_s sl_z))))))))))), fun b hb => by cases hb; exact ev_true, rfl, fun y hy => by obtain ⟨t18, h_t18, hy⟩ := bI hy; cases hy; exact ⟨_, (ev_call (ev_args (ev_var rfl) (ev_args (ev_var rfl) (ev_args ev_c (ev_args (ev_var rfl) (ev_args (ev_var rfl) (ev_args (ev_var rfl) ev_args0 rfl) rfl) rfl) rfl) rfl) rfl) (q_on_edge _ h_t18)), (by first | rfl | exact pureO (fun _ => rfl) _), rfl⟩⟩) h_t19)) (fun _ => (sl_s (sl_s (sl_s (sl_s (sl_s sl_z)))))) fun v_found20 => ?_
      exact Rf.fin ⟨.inl rfl, (some (eI x7)), (some ((e3 eI eI eI) t8)), (some ((e3 eI eI eI) t10)), rfl⟩
  · rintro s3 _ ⟨X4, X5, X6, rfl⟩
    refine Rf.thn (fun (s21 : (List (Option (Int × Int)))) z' => ∃ X22 : Option D, z' = ⟨[.val ((eU (e3 eI eI eI)) v_triangle), .val (eI v_x0), .val (eI v_z0), .val (eI v_x1), .val (eI v_z1), .own (.lst (List.map (eO (e2 eI eI)) s21)), .val ((e3 eI eI eI) t1), (sv X4), (sv X5), (sv X6), .no, (sv X22), .no, .no], h⟩) (Rf.forN (xs := [((v_x0, v_x1)).1, ((v_x0, v_x1)).2]) (v := (s3)) eI (fun (s21 : (List (Option (Int × Int)))) z' => ∃ X22 : Option D, z' = ⟨[.val ((eU (e3 eI eI eI)) v_triangle), .val (eI v_x0), .val (eI v_z0), .val (eI v_x1), .val (eI v_z1), .own (.lst (List.map (eO (e2 eI eI)) s21)), .val ((e3 eI eI eI) t1), (sv X4), (sv X5), (sv X6), .no, (sv X22), .no, .no], h⟩) (ev_itsP (e := eI) (xs := [((v_x0, v_x1)).1, ((v_x0, v_x1)).2]) (ev_tup (ev_args (ev_var rfl) (ev_args (ev_var rfl) ev_args0 rfl) rfl)) rfl) ⟨none, rfl⟩ fun x23 s21 z' hz => ?_) ?_
    · obtain ⟨X22, rfl⟩ := hz
      refine ⟨_, (gr_nm (sl_s (sl_s (sl_s (sl_s (sl_s (sl_s (sl_s (sl_s (sl_s (sl_s (sl_s sl_z)))))))))))), ?_⟩
      refine Rf.last ?_
      refine Rf.bd fun t26 h_t26 => ?_
      refine Rf.ext (xs := s21) (t := t26) (eO (e2 eI eI)) rfl (ev_frz (ev_cmp eI (eO (e2 eI eI)) (s := [.val ((eU (e3 eI eI eI)) v_triangle), .val (eI v_x0), .val (eI v_z0), .val (eI v_x1), .val (eI v_z1), .own (.lst (List.map (eO (e2 eI eI)) s21)), .val ((e3 eI eI eI) t1), (sv X4), (sv X5), (sv X6), .no, .val (eI x23), .no, .no]) (s' := [.val ((eU (e3 eI eI eI)) v_triangle), .val (eI v_x0), .val (eI v_z0), .val (eI v_x1), .val (eI v_z1), .own (.lst (List.map (eO (e2 eI eI)) s21)), .val ((e3 eI eI eI) t1), (sv X4), (sv X5), (sv X6), .no, .val (eI x23), .no, .no]) (s2 := [.val ((eU (e3 eI eI eI)) v_triangle), .val (eI v_x0), .val (eI v_z0), .val (eI v_x1), .val (eI v_z1), .own (.lst (List.map (eO (e2 eI eI)) s21)), .val ((e3 eI eI eI) t1), (sv X4), (sv X5), (sv X6), .no, .val (eI x23), .no, .no]) (ev_itsC (e := eI) (xs := [((v_z0, v_z1)).1, ((v_z0, v_z1)).2]) (ev_tup (ev_args (ev_var rfl) (ev_args (ev_var rfl) ev_args0 rfl) rfl)) rfl) rfl rfl rfl rfl (fun x24 => ⟨_, _, (gr_nm (sl_s (sl_s (sl_s (sl_s (sl_s (sl_s (sl_s (sl_s (sl_s (sl_s (sl_s (sl_s sl_z))))))))))))), fun b hb => by cases hb; exact ev_true, rfl, fun y hy => by obtain ⟨t25, h_t25, hy⟩ := bI hy; cases hy; exact ⟨_, (ev_call (ev_args (ev_var rfl) (ev_args (ev_var rfl) (ev_args (ev_var rfl) (ev_args (ev_var rfl) ev_args0 rfl) rfl) rfl) rfl) (q_at_corner _ h_t25)), (by first | rfl | exact pureO (fun _ => rfl) _), rfl⟩⟩) h_t26)) (fun _ => (sl_s (sl_s (sl_s (sl_s (sl_s sl_z)))))) fun v_found27 => ?_
      exact Rf.fin ⟨.inl rfl, (some (eI x23)), rfl⟩
    · rintro s21 _ ⟨X22, rfl⟩
      refine Rf.frz rfl (sl_s (sl_s (sl_s (sl_s (sl_s sl_z))))) ?_
      refine Rf.last ?_
      refine Rf.bd fun t30 h_t30 => ?_
      exact Rf.ret (ev_frz (ev_cmp (eO (e2 eI eI)) (e2 eI eI) (s := [.val ((eU (e3 eI eI eI)) v_triangle), .val (eI v_x0), .val (eI v_z0), .val (eI v_x1), .val (eI v_z1), .val ((eL (eO (e2 eI eI))) s21), .val ((e3 eI eI eI) t1), (sv X4), (sv X5), (sv X6), .no, (sv X22), .no, .no]) (s' := [.val ((eU (e3 eI eI eI)) v_triangle), .val (eI v_x0), .val (eI v_z0), .val (eI v_x1), .val (eI v_z1), .val ((eL (eO (e2 eI eI))) s21), .val ((e3 eI eI eI) t1), (sv X4), (sv X5), (sv X6), .no, (sv X22), .no, .no]) (s2 := [.val ((eU (e3 eI eI eI)) v_triangle), .val (eI v_x0), .val (eI v_z0), .val (eI v_x1), .val (eI v_z1), .val ((eL (eO (e2 eI eI))) s21), .val ((e3 eI eI eI) t1), (sv X4), (sv X5), (sv X6), .no, (sv X22), .no, .no]) (ev_itsC (e := (eO (e2 eI eI))) (xs := s21) (ev_var rfl) rfl) rfl rfl rfl rfl (fun x28 => ⟨_, _, (gr_nm (sl_s (sl_s (sl_s (sl_s (sl_s (sl_s (sl_s (sl_s (sl_s (sl_s (sl_s (sl_s (sl_s sl_z)))))))))))))), fun b hb => by cases hb; exact (tv (ev_notN (ev_var rfl) (notNonE (fun _ => rfl) _))), rfl, fun y hy => by obtain ⟨t29, h_t29, hy⟩ := bI hy; cases hy; exact ⟨_, (ev_unO (ev_var rfl) h_t29), rfl, rfl⟩⟩) h_t30)) rfl ⟨.inl rfl, rfl⟩
def p_less (v_one : (Int × Int)) (v_other : (Int × Int)) : Option Bool :=
  (Pl.mul v_one.1 v_other.2).bind fun t1 =>
  (Pl.mul v_other.1 v_one.2).bind fun t2 =>
  some (decide (t1 < t2))
theorem q_less {v_one : (Int × Int)} {v_other : (Int × Int)} (h : List D) {r : Bool} (hr : p_less v_one v_other = some r) : m_less [(e2 eI eI) v_one, (e2 eI eI) v_other] h = some (eB r, h) := by
  refine Rf.fn (o := p_less v_one v_other) (e := eB) (hp := (fun _ : Bool => h)) (s := [.val ((e2 eI eI) v_one), .val ((e2 eI eI) v_other)]) rfl rfl ?_ hr
  unfold p_less b_less
  refine Rf.last ?_
  refine Rf.bd fun t1 h_t1 => ?_
  refine Rf.bd fun t2 h_t2 => ?_
  exact Rf.ret (ev_lt (ev_mulP (ev_ix (ev_var rfl) ev_c rfl rfl) (ev_ix (ev_var rfl) ev_c rfl rfl) h_t1) (ev_mulP (ev_ix (ev_var rfl) ev_c rfl rfl) (ev_ix (ev_var rfl) ev_c rfl rfl) h_t2)) rfl ⟨.inl rfl, rfl⟩
def p_extent (v_triangle : (List (Int × Int × Int))) (v_x0 : Int) (v_z0 : Int) (v_x1 : Int) (v_z1 : Int) : Option (Option ((Int × Int) × (Int × Int))) :=
  (p_heights v_triangle v_x0 v_z0 v_x1 v_z1).bind fun t1 =>
  (if (!(!t1.isEmpty)) = true then
  some none
  else
  (Pl.at_ t1 (0 : Int)).bind fun t2 =>
  (Pl.at_ t1 (0 : Int)).bind fun t3 =>
  (Pl.forN (fun (x6 : (Int × Int)) (s4 : (Int × Int) × (Int × Int)) =>
  (p_less x6 s4.1).bind fun t7 =>
  ((if t7 = true then
  some (x6)
  else
  some (s4.1)) : Option ((Int × Int))).bind fun j8 =>
  (p_less s4.2 x6).bind fun t9 =>
  ((if t9 = true then
  some (x6)
  else
  some (s4.2)) : Option ((Int × Int))).bind fun j10 =>
  some (j8, j10)) (N.cutL t1 (some (1 : Int)) none) (t2, t3)).bind fun (s4 : (Int × Int) × (Int × Int)) =>
  some (some (s4.1, s4.2)))
theorem q_extent {v_triangle : (List (Int × Int × Int))} {v_x0 : Int} {v_z0 : Int} {v_x1 : Int} {v_z1 : Int} (h : List D) {r : (Option ((Int × Int) × (Int × Int)))} (hr : p_extent v_triangle v_x0 v_z0 v_x1 v_z1 = some r) : m_extent [(eU (e3 eI eI eI)) v_triangle, eI v_x0, eI v_z0, eI v_x1, eI v_z1] h = some ((eO (e2 (e2 eI eI) (e2 eI eI))) r, h) := by
  refine Rf.fn (o := p_extent v_triangle v_x0 v_z0 v_x1 v_z1) (e := (eO (e2 (e2 eI eI) (e2 eI eI)))) (hp := (fun _ : (Option ((Int × Int) × (Int × Int))) => h)) (s := [.val ((eU (e3 eI eI eI)) v_triangle), .val (eI v_x0), .val (eI v_z0), .val (eI v_x1), .val (eI v_z1), .no, .no, .no, .no]) rfl rfl ?_ hr
  unfold p_extent b_extent
  refine Rf.bd fun t1 h_t1 => ?_
  refine Rf.set0 (d := (eL (e2 eI eI)) t1) (ev_call (ev_args (ev_var rfl) (ev_args (ev_var rfl) (ev_args (ev_var rfl) (ev_args (ev_var rfl) (ev_args (ev_var rfl) ev_args0 rfl) rfl) rfl) rfl) rfl) (q_heights _ h_t1)) rfl (sl_s (sl_s (sl_s (sl_s (sl_s sl_z))))) ?_
  refine Rf.ite (tt_not (tt_tru (ev_var rfl) tru_map)) ?_ ?_
  · exact Rf.ret ev_c (by first | rfl | exact pureO (fun _ => rfl) _) ⟨.inl rfl, rfl⟩
  · refine Rf.skip ?_
    refine Rf.bd fun t2 h_t2 => ?_
    refine Rf.set0 (d := (e2 eI eI) t2) (ev_ixP (e := (e2 eI eI)) (ev_var rfl) ev_c rfl h_t2) rfl (sl_s (sl_s (sl_s (sl_s (sl_s (sl_s sl_z)))))) ?_
    refine Rf.bd fun t3 h_t3 => ?_
    refine Rf.set0 (d := (e2 eI eI) t3) (ev_ixP (e := (e2 eI eI)) (ev_var rfl) ev_c rfl h_t3) rfl (sl_s (sl_s (sl_s (sl_s (sl_s (sl_s (sl_s sl_z))))))) ?_
    refine Rf.thn (fun (s4 : (Int × Int) × (Int × Int)) z' => ∃ X5 : Option D, z' = ⟨[.val ((eU (e3 eI eI eI)) v_triangle), .val (eI v_x0), .val (eI v_z0), .val (eI v_x1), .val (eI v_z1), .val ((eL (e2 eI eI)) t1), .val ((e2 eI eI) s4.1), .val ((e2 eI eI) s4.2), (sv X5)], h⟩) (Rf.forN (xs := (N.cutL t1 (some (1 : Int)) none)) (v := (t2, t3)) (e2 eI eI) (fun (s4 : (Int × Int) × (Int × Int)) z' => ∃ X5 : Option D, z' = ⟨[.val ((eU (e3 eI eI eI)) v_triangle), .val (eI v_x0), .val (eI v_z0), .val (eI v_x1), .val (eI v_z1), .val ((eL (e2 eI eI)) t1), .val ((e2 eI eI) s4.1), .val ((e2 eI eI) s4.2), (sv X5)], h⟩) (ev_itsP (e := (e2 eI eI)) (xs := (N.cutL t1 (some (1 : Int)) none)) (ev_frz (ev_sliceP (e := (e2 eI eI)) (ev_var rfl) (ev_part ev_c) ev_part0 rfl)) rfl) ⟨none, rfl⟩ fun x6 s4 z' hz => ?_) ?_
    · obtain ⟨X5, rfl⟩ := hz
      refine ⟨_, (gr_nm (sl_s (sl_s (sl_s (sl_s (sl_s (sl_s (sl_s (sl_s sl_z))))))))), ?_⟩
      refine Rf.bd fun t7 h_t7 => ?_
      refine Rf.thn (β := (Int × Int)) (fun j8 z' => z' = ⟨[.val ((eU (e3 eI eI eI)) v_triangle), .val (eI v_x0), .val (eI v_z0), .val (eI v_x1), .val (eI v_z1), .val ((eL (e2 eI eI)) t1), .val ((e2 eI eI) j8), .val ((e2 eI eI) s4.2), .val ((e2 eI eI) x6)], h⟩) ?_ ?_
      · refine Rf.last ?_
        refine Rf.ite (tt_tru (ev_call (ev_args (ev_var rfl) (ev_args (ev_var rfl) ev_args0 rfl) rfl) (q_less _ h_t7)) rfl) ?_ ?_
        · refine Rf.set0 (d := (e2 eI eI) x6) (ev_var rfl) rfl (sl_s (sl_s (sl_s (sl_s (sl_s (sl_s sl_z)))))) ?_
          exact Rf.fin ⟨rfl, rfl⟩
        · refine Rf.skip ?_
          exact Rf.fin ⟨rfl, rfl⟩
      · rintro j8 _ ⟨rfl⟩
        refine Rf.last ?_
        refine Rf.bd fun t9 h_t9 => ?_
        refine Rf.thn (β := (Int × Int)) (fun j10 z' => z' = ⟨[.val ((eU (e3 eI eI eI)) v_triangle), .val (eI v_x0), .val (eI v_z0), .val (eI v_x1), .val (eI v_z1), .val ((eL (e2 eI eI)) t1), .val ((e2 eI eI) j8), .val ((e2 eI eI) j10), .val ((e2 eI eI) x6)], h⟩) ?_ ?_
        · refine Rf.last ?_
          refine Rf.ite (tt_tru (ev_call (ev_args (ev_var rfl) (ev_args (ev_var rfl) ev_args0 rfl) rfl) (q_less _ h_t9)) rfl) ?_ ?_
          · refine Rf.set0 (d := (e2 eI eI) x6) (ev_var rfl) rfl (sl_s (sl_s (sl_s (sl_s (sl_s (sl_s (sl_s sl_z))))))) ?_
            exact Rf.fin ⟨rfl, rfl⟩
          · refine Rf.skip ?_
            exact Rf.fin ⟨rfl, rfl⟩
        · rintro j10 _ ⟨rfl⟩
          exact Rf.fin ⟨.inl rfl, (some ((e2 eI eI) x6)), rfl⟩
    · rintro s4 _ ⟨X5, rfl⟩
      refine Rf.last ?_
      exact Rf.ret (ev_tup (ev_args (ev_var rfl) (ev_args (ev_var rfl) ev_args0 rfl) rfl)) (by first | rfl | exact pureO (fun _ => rfl) _) ⟨.inl rfl, rfl⟩
def p_law_same (v_one : (Int × Int)) (v_other : (Int × Int)) : Option Bool :=
  (Pl.andO (decide ((0 : Int) < v_one.2)) ((Pl.mul v_one.1 v_other.2).bind fun t1 => (Pl.mul v_other.1 v_one.2).bind fun t2 => some (decide (t1 = t2)))).bind fun t3 =>
  some t3
theorem q_law_same {v_one : (Int × Int)} {v_other : (Int × Int)} (h : List D) {r : Bool} (hr : p_law_same v_one v_other = some r) : m_law_same [(e2 eI eI) v_one, (e2 eI eI) v_other] h = some (eB r, h) := by
  refine Rf.fn (o := p_law_same v_one v_other) (e := eB) (hp := (fun _ : Bool => h)) (s := [.val ((e2 eI eI) v_one), .val ((e2 eI eI) v_other)]) rfl rfl ?_ hr
  unfold p_law_same b_law_same
  refine Rf.last ?_
  refine Rf.bd fun t3 h_t3 => ?_
  exact Rf.ret (ev_andO (ev_gt (ev_ix (ev_var rfl) ev_c rfl rfl) ev_c) (fun q hq => by obtain ⟨t1, h_t1, hq⟩ := bI hq; obtain ⟨t2, h_t2, hq⟩ := bI hq; cases hq; exact (ev_eqI (ev_mulP (ev_ix (ev_var rfl) ev_c rfl rfl) (ev_ix (ev_var rfl) ev_c rfl rfl) h_t1) (ev_mulP (ev_ix (ev_var rfl) ev_c rfl rfl) (ev_ix (ev_var rfl) ev_c rfl rfl) h_t2))) h_t3) rfl ⟨.inl rfl, rfl⟩
def p_law (s : DS) : Option (Bool × DS) :=
  (Pl.rngO 0 (4 : Int)).bind fun t1 =>
  ((Pl.forO (fun (x14 : Int) (s2 : DS) =>
  (Pl.draw s2 (3 : Int)).bind fun t15 =>
  (Pl.at_ [(12 : Int), (20 : Int), (1000 : Int)] t15.1).bind fun t16 =>
  (p_law_triangle t16 t15.2).bind fun t17 =>
  (p_law_number t16 t17.2).bind fun t18 =>
  (p_law_number t16 t18.2).bind fun t19 =>
  (Pl.draw t19.2 (2 : Int)).bind fun t20 =>
  (Pl.at_ [(4 : Int), t16] t20.1).bind fun t21 =>
  (Pl.draw t20.2 t21).bind fun t22 =>
  (some (((t18.1 + (1 : Int)) + t22.1))).bind fun v_x123 =>
  (Pl.draw t22.2 (2 : Int)).bind fun t24 =>
  (Pl.at_ [(4 : Int), t16] t24.1).bind fun t25 =>
  (Pl.draw t24.2 t25).bind fun t26 =>
  (some (((t19.1 + (1 : Int)) + t26.1))).bind fun v_z127 =>
  (p_law_extent t17.1 t18.1 t19.1 v_x123 v_z127).bind fun t28 =>
  (p_extent t17.1 t18.1 t19.1 v_x123 v_z127).bind fun t29 =>
  (if (t28.isNone || t29.isNone) = true then
  (if (t28.isSome || t29.isSome) = true then
  some (.ret (false, t26.2))
  else
  (Pl.draw t26.2 (200 : Int)).bind fun t30 =>
  (Pl.draw t30.2 (50 : Int)).bind fun t31 =>
  (some (((t30.1 - (100 : Int)), ((1 : Int) + t31.1)))).bind fun v_one32 =>
  (Pl.draw t31.2 (200 : Int)).bind fun t33 =>
  (Pl.draw t33.2 (50 : Int)).bind fun t34 =>
  (some (((t33.1 - (100 : Int)), ((1 : Int) + t34.1)))).bind fun v_other35 =>
  (Pl.draw t34.2 (3 : Int)).bind fun t36 =>
  ((if (decide (t36.1 = (0 : Int))) = true then
  (Pl.mul (3 : Int) v_one32.1).bind fun t38 =>
  (Pl.mul (3 : Int) v_one32.2).bind fun t39 =>
  (some ((t38, t39))).bind fun v_other40 =>
  some (v_other40)
  else
  some (v_other35)) : Option ((Int × Int))).bind fun j37 =>
  (p_less v_one32 j37).bind fun t41 =>
  (Pl.orO (!true) ((Pl.mul v_one32.1 j37.2).bind fun t42 => (Pl.mul j37.1 v_one32.2).bind fun t43 => some (!decide (t41 = (decide ((t42 - t43) < (0 : Int))))))).bind fun t44 =>
  (if t44 = true then
  some (.ret (false, t36.2))
  else
  some (.go (t36.2))))
  else
  (t29).bind fun t45 =>
  (Pl.orO (!true) ((t29).bind fun t46 => (Pl.orO (!decide ((2 : Int) = (2 : Int))) ((t29).bind fun t47 => (t28).bind fun t48 => (Pl.at_ t48 (0 : Int)).bind fun t49 => (p_law_same t47.1 t49).bind fun t50 => some (!t50))).bind fun t51 => some t51)).bind fun t52 =>
  (if t52 = true then
  some (.ret (false, t26.2))
  else
  (t29).bind fun t53 =>
  (t28).bind fun t54 =>
  (Pl.at_ t54 (1 : Int)).bind fun t55 =>
  (p_law_same t53.2 t55).bind fun t56 =>
  (if (!t56) = true then
  some (.ret (false, t26.2))
  else
  (Pl.draw t26.2 (200 : Int)).bind fun t57 =>
  (Pl.draw t57.2 (50 : Int)).bind fun t58 =>
  (some (((t57.1 - (100 : Int)), ((1 : Int) + t58.1)))).bind fun v_one59 =>
  (Pl.draw t58.2 (200 : Int)).bind fun t60 =>
  (Pl.draw t60.2 (50 : Int)).bind fun t61 =>
  (some (((t60.1 - (100 : Int)), ((1 : Int) + t61.1)))).bind fun v_other62 =>
  (Pl.draw t61.2 (3 : Int)).bind fun t63 =>
  ((if (decide (t63.1 = (0 : Int))) = true then
  (Pl.mul (3 : Int) v_one59.1).bind fun t65 =>
  (Pl.mul (3 : Int) v_one59.2).bind fun t66 =>
  (some ((t65, t66))).bind fun v_other67 =>
  some (v_other67)
  else
  some (v_other62)) : Option ((Int × Int))).bind fun j64 =>
  (p_less v_one59 j64).bind fun t68 =>
  (Pl.orO (!true) ((Pl.mul v_one59.1 j64.2).bind fun t69 => (Pl.mul j64.1 v_one59.2).bind fun t70 => some (!decide (t68 = (decide ((t69 - t70) < (0 : Int))))))).bind fun t71 =>
  (if t71 = true then
  some (.ret (false, t63.2))
  else
  some (.go (t63.2))))))) t1 (s)) : Option ((DS) ⊕ (Bool × DS))).bind (Pl.out (fun (s2 : DS) =>
  some (true, s2)) (fun r => some r))
theorem q_law {v_script : D} {s : DS} {r : Bool × DS} {h0 tl : List D} (hs : m_law_state [v_script] h0 = some (.ref 1, stT s tl)) (hr : p_law s = some r) (hp : isPure v_script = true) : m_law [v_script] h0 = some (.bl r.1, stT r.2 tl) := by
  refine Rf.fn (o := p_law s) (e := fun r : Bool × DS => .bl r.1) (hp := fun r : Bool × DS => stT r.2 tl) (s := [.val v_script, .no, .no, .no, .no, .no, .no, .no, .no, .no, .no, .no, .no]) rfl rfl ?_ hr
  unfold b_law
  refine Rf.set0 (d := .ref 1) (s := [.val v_script, .no, .no, .no, .no, .no, .no, .no, .no, .no, .no, .no, .no]) (h := stT s tl) (ev_call (ev_args (ev_var rfl) ev_args0 hp) hs) rfl (sl_s sl_z) ?_
  clear hs hr
  unfold p_law
  refine Rf.bd fun t1 h_t1 => ?_
  refine Rf.thnX (fun (s2 : DS) z' => ∃ X3 : Option D, ∃ X4 : Option D, ∃ X5 : Option D, ∃ X6 : Option D, ∃ X7 : Option D, ∃ X8 : Option D, ∃ X9 : Option D, ∃ X10 : Option D, ∃ X11 : Option D, ∃ X12 : Option D, ∃ X13 : Option D, z' = ⟨[.val (eD v_script), .val (.ref 1), (sv X3), (sv X4), (sv X5), (sv X6), (sv X7), (sv X8), (sv X9), (sv X10), (sv X11), (sv X12), (sv X13)], (stT s2 tl)⟩) (fun (r : (Bool × DS)) f z' => (f = .rt ((fun r : (Bool × DS) => eB r.1) r) ∨ (f = .nx ∧ (fun r : (Bool × DS) => eB r.1) r = .non)) ∧ z'.h = (fun r : (Bool × DS) => stT r.2 tl) r) (Rf.forO (xs := t1) (v := (s)) eI (fun (s2 : DS) z' => ∃ X3 : Option D, ∃ X4 : Option D, ∃ X5 : Option D, ∃ X6 : Option D, ∃ X7 : Option D, ∃ X8 : Option D, ∃ X9 : Option D, ∃ X10 : Option D, ∃ X11 : Option D, ∃ X12 : Option D, ∃ X13 : Option D, z' = ⟨[.val (eD v_script), .val (.ref 1), (sv X3), (sv X4), (sv X5), (sv X6), (sv X7), (sv X8), (sv X9), (sv X10), (sv X11), (sv X12), (sv X13)], (stT s2 tl)⟩) (fun (r : (Bool × DS)) f z' => (f = .rt ((fun r : (Bool × DS) => eB r.1) r) ∨ (f = .nx ∧ (fun r : (Bool × DS) => eB r.1) r = .non)) ∧ z'.h = (fun r : (Bool × DS) => stT r.2 tl) r) (ev_rngP1 ev_c h_t1) ⟨none, none, none, none, none, none, none, none, none, none, none, rfl⟩ fun x14 s2 z' hz => ?_) ?_ ?_
  · obtain ⟨X3, X4, X5, X6, X7, X8, X9, X10, X11, X12, X13, rfl⟩ := hz
    refine ⟨_, (gr_nm (sl_s (sl_s sl_z))), ?_⟩
    refine Rf.bd fun t15 h_t15 => ?_
    refine Rf.bd fun t16 h_t16 => ?_
    refine Rf.set0 (d := eI t16) (ev_ixP (e := eI) (ev_frz (ev_disp (ev_args ev_c (ev_args ev_c (ev_args ev_c ev_args0 rfl) rfl) rfl))) (ev_call (ev_args (ev_var rfl) (ev_args ev_c ev_args0 rfl) rfl) (q_law_draw tl h_t15)) rfl h_t16) rfl (sl_s (sl_s (sl_s sl_z))) ?_
    refine Rf.bd fun t17 h_t17 => ?_
    refine Rf.set0 (d := (eU (e3 eI eI eI)) t17.1) (ev_call (ev_args (ev_var rfl) (ev_args (ev_var rfl) ev_args0 rfl) rfl) (q_law_triangle tl h_t17)) rfl (sl_s (sl_s (sl_s (sl_s sl_z)))) ?_
    refine Rf.bd fun t18 h_t18 => ?_
    refine Rf.set0 (d := eI t18.1) (ev_call (ev_args (ev_var rfl) (ev_args (ev_var rfl) ev_args0 rfl) rfl) (q_law_number tl h_t18)) rfl (sl_s (sl_s (sl_s (sl_s (sl_s sl_z))))) ?_
    refine Rf.bd fun t19 h_t19 => ?_
    refine Rf.set0 (d := eI t19.1) (ev_call (ev_args (ev_var rfl) (ev_args (ev_var rfl) ev_args0 rfl) rfl) (q_law_number tl h_t19)) rfl (sl_s (sl_s (sl_s (sl_s (sl_s (sl_s sl_z)))))) ?_
    refine Rf.bd fun t20 h_t20 => ?_
    refine Rf.bd fun t21 h_t21 => ?_
    refine Rf.bd fun t22 h_t22 => ?_
    refine Rf.setT (t := ((t18.1 + (1 : Int)) + t22.1)) eI (ev_add (ev_add (ev_var rfl) ev_c) (ev_call (ev_args (ev_var rfl) (ev_args (ev_ixP (e := eI) (ev_frz (ev_disp (ev_args ev_c (ev_args (ev_var rfl) ev_args0 rfl) rfl))) (ev_call (ev_args (ev_var rfl) (ev_args ev_c ev_args0 rfl) rfl) (q_law_draw tl h_t20)) rfl h_t21) ev_args0 rfl) rfl) (q_law_draw tl h_t22))) (fun _ => rfl) (fun _ => (sl_s (sl_s (sl_s (sl_s (sl_s (sl_s (sl_s sl_z)))))))) fun v_x123 => ?_
    refine Rf.bd fun t24 h_t24 => ?_
    refine Rf.bd fun t25 h_t25 => ?_
    refine Rf.bd fun t26 h_t26 => ?_
    refine Rf.setT (t := ((t19.1 + (1 : Int)) + t26.1)) eI (ev_add (ev_add (ev_var rfl) ev_c) (ev_call (ev_args (ev_var rfl) (ev_args (ev_ixP (e := eI) (ev_frz (ev_disp (ev_args ev_c (ev_args (ev_var rfl) ev_args0 rfl) rfl))) (ev_call (ev_args (ev_var rfl) (ev_args ev_c ev_args0 rfl) rfl) (q_law_draw tl h_t24)) rfl h_t25) ev_args0 rfl) rfl) (q_law_draw tl h_t26))) (fun _ => rfl) (fun _ => (sl_s (sl_s (sl_s (sl_s (sl_s (sl_s (sl_s (sl_s sl_z))))))))) fun v_z127 => ?_
    refine Rf.bd fun t28 h_t28 => ?_
    refine Rf.set0 (d := (eO (eL (e2 eI eI))) t28) (ev_call (ev_args (ev_var rfl) (ev_args (ev_var rfl) (ev_args (ev_var rfl) (ev_args (ev_var rfl) (ev_args (ev_var rfl) ev_args0 rfl) rfl) rfl) rfl) rfl) (q_law_extent _ h_t28)) (by first | rfl | exact pureO (fun _ => rfl) _) (sl_s (sl_s (sl_s (sl_s (sl_s (sl_s (sl_s (sl_s (sl_s sl_z))))))))) ?_
    refine Rf.bd fun t29 h_t29 => ?_
    refine Rf.set0 (d := (eO (e2 (e2 eI eI) (e2 eI eI))) t29) (ev_call (ev_args (ev_var rfl) (ev_args (ev_var rfl) (ev_args (ev_var rfl) (ev_args (ev_var rfl) (ev_args (ev_var rfl) ev_args0 rfl) rfl) rfl) rfl) rfl) (q_extent _ h_t29)) (by first | rfl | exact pureO (fun _ => rfl) _) (sl_s (sl_s (sl_s (sl_s (sl_s (sl_s (sl_s (sl_s (sl_s (sl_s sl_z)))))))))) ?_
    refine Rf.ite (tt_or (tv (ev_isN (ev_var rfl) (nonE (fun _ => rfl) _))) fun _ => (tv (ev_isN (ev_var rfl) (nonE (fun _ => rfl) _)))) ?_ ?_
    · refine Rf.ite (tt_or (tv (ev_notN (ev_var rfl) (notNonE (fun _ => rfl) _))) fun _ => (tv (ev_notN (ev_var rfl) (notNonE (fun _ => rfl) _)))) ?_ ?_
      · exact Rf.ret ev_c rfl ⟨⟨_, rfl⟩, .inl rfl, rfl⟩
      · refine Rf.skip ?_
        refine Rf.bd fun t30 h_t30 => ?_
        refine Rf.bd fun t31 h_t31 => ?_
        refine Rf.setT (t := ((t30.1 - (100 : Int)), ((1 : Int) + t31.1))) (e2 eI eI) (ev_tup (ev_args (ev_sub (ev_call (ev_args (ev_var rfl) (ev_args ev_c ev_args0 rfl) rfl) (q_law_draw tl h_t30)) ev_c) (ev_args (ev_add ev_c (ev_call (ev_args (ev_var rfl) (ev_args ev_c ev_args0 rfl) rfl) (q_law_draw tl h_t31))) ev_args0 rfl) rfl)) (fun _ => rfl) (fun _ => (sl_s (sl_s (sl_s (sl_s (sl_s (sl_s (sl_s (sl_s (sl_s (sl_s (sl_s sl_z)))))))))))) fun v_one32 => ?_
        refine Rf.bd fun t33 h_t33 => ?_
        refine Rf.bd fun t34 h_t34 => ?_
        refine Rf.setT (t := ((t33.1 - (100 : Int)), ((1 : Int) + t34.1))) (e2 eI eI) (ev_tup (ev_args (ev_sub (ev_call (ev_args (ev_var rfl) (ev_args ev_c ev_args0 rfl) rfl) (q_law_draw tl h_t33)) ev_c) (ev_args (ev_add ev_c (ev_call (ev_args (ev_var rfl) (ev_args ev_c ev_args0 rfl) rfl) (q_law_draw tl h_t34))) ev_args0 rfl) rfl)) (fun _ => rfl) (fun _ => (sl_s (sl_s (sl_s (sl_s (sl_s (sl_s (sl_s (sl_s (sl_s (sl_s (sl_s (sl_s sl_z))))))))))))) fun v_other35 => ?_
        refine Rf.bd fun t36 h_t36 => ?_
        refine Rf.thn (β := (Int × Int)) (fun j37 z' => z' = ⟨[.val (eD v_script), .val (.ref 1), .val (eI x14), .val (eI t16), .val ((eU (e3 eI eI eI)) t17.1), .val (eI t18.1), .val (eI t19.1), .val (eI v_x123), .val (eI v_z127), .val ((eO (eL (e2 eI eI))) t28), .val ((eO (e2 (e2 eI eI) (e2 eI eI))) t29), .val ((e2 eI eI) v_one32), .val ((e2 eI eI) j37)], (stT t36.2 tl)⟩) ?_ ?_
        · refine Rf.last ?_
          refine Rf.ite (tv (ev_eqI (ev_call (ev_args (ev_var rfl) (ev_args ev_c ev_args0 rfl) rfl) (q_law_draw tl h_t36)) ev_c)) ?_ ?_
          · refine Rf.bd fun t38 h_t38 => ?_
            refine Rf.bd fun t39 h_t39 => ?_
            refine Rf.setT (t := (t38, t39)) (e2 eI eI) (ev_tup (ev_args (ev_mulP ev_c (ev_ix (ev_var rfl) ev_c rfl rfl) h_t38) (ev_args (ev_mulP ev_c (ev_ix (ev_var rfl) ev_c rfl rfl) h_t39) ev_args0 rfl) rfl)) (fun _ => rfl) (fun _ => (sl_s (sl_s (sl_s (sl_s (sl_s (sl_s (sl_s (sl_s (sl_s (sl_s (sl_s (sl_s sl_z))))))))))))) fun v_other40 => ?_
            exact Rf.fin ⟨rfl, rfl⟩
          · refine Rf.skip ?_
            exact Rf.fin ⟨rfl, rfl⟩
        · rintro j37 _ ⟨rfl⟩
          refine Rf.bd fun t41 h_t41 => ?_
          refine Rf.set0 (d := eB t41) (ev_call (ev_args (ev_var rfl) (ev_args (ev_var rfl) ev_args0 rfl) rfl) (q_less _ h_t41)) rfl (sl_s (sl_s (sl_s (sl_s (sl_s (sl_s (sl_s (sl_s (sl_s (sl_s sl_z)))))))))) ?_
          refine Rf.last ?_
          refine Rf.bd fun t44 h_t44 => ?_
          refine Rf.ite (tt_orO (tt_not (tt_tru (ev_un (ev_var rfl) (lf_isi (t := "bool") rfl (by with_unfolding_all decide))) rfl)) (fun q hq => by obtain ⟨t42, h_t42, hq⟩ := bI hq; obtain ⟨t43, h_t43, hq⟩ := bI hq; cases hq; exact (tv (ev_ne (ev_var rfl) (ev_lt (ev_sub (ev_mulP (ev_ix (ev_var rfl) ev_c rfl rfl) (ev_ix (ev_var rfl) ev_c rfl rfl) h_t42) (ev_mulP (ev_ix (ev_var rfl) ev_c rfl rfl) (ev_ix (ev_var rfl) ev_c rfl rfl) h_t43)) ev_c) eqP_bl))) h_t44) ?_ ?_
          · exact Rf.ret ev_c rfl ⟨⟨_, rfl⟩, .inl rfl, rfl⟩
          · refine Rf.skip ?_
            exact Rf.fin ⟨.inl rfl, (some (eI x14)), (some (eI t16)), (some ((eU (e3 eI eI eI)) t17.1)), (some (eI t18.1)), (some (eI t19.1)), (some (eI v_x123)), (some (eI v_z127)), (some ((eO (eL (e2 eI eI))) t28)), (some (eB t41)), (some ((e2 eI eI) v_one32)), (some ((e2 eI eI) j37)), rfl⟩
    · refine Rf.bd fun t45 h_t45 => ?_
      refine Rf.bd fun t52 h_t52 => ?_
      refine Rf.ite (tt_orO (tt_not (tt_tru (ev_un (ev_unO (ev_var rfl) h_t45) (lf_isi (t := "tuple") rfl (by with_unfolding_all decide))) rfl)) (fun q hq => by obtain ⟨t46, h_t46, hq⟩ := bI hq; obtain ⟨t51, h_t51, hq⟩ := bI hq; cases hq; exact (tt_orO (tv (ev_neI (ev_blt1 (ev_unO (ev_var rfl) h_t46) (F_lenM (e := eD) (xs := [(e2 eI eI) t46.1, (e2 eI eI) t46.2]) rfl)) ev_c)) (fun q hq => by obtain ⟨t47, h_t47, hq⟩ := bI hq; obtain ⟨t48, h_t48, hq⟩ := bI hq; obtain ⟨t49, h_t49, hq⟩ := bI hq; obtain ⟨t50, h_t50, hq⟩ := bI hq; cases hq; exact (tt_not (tt_tru (ev_call (ev_args (ev_ix (ev_unO (ev_var rfl) h_t47) ev_c rfl rfl) (ev_args (ev_ixP (e := (e2 eI eI)) (ev_unO (ev_var rfl) h_t48) ev_c rfl h_t49) ev_args0 rfl) rfl) (q_law_same _ h_t50)) rfl))) h_t51)) h_t52) ?_ ?_
      · exact Rf.ret ev_c rfl ⟨⟨_, rfl⟩, .inl rfl, rfl⟩
      · refine Rf.bd fun t53 h_t53 => ?_
        refine Rf.bd fun t54 h_t54 => ?_
        refine Rf.bd fun t55 h_t55 => ?_
        refine Rf.bd fun t56 h_t56 => ?_
        refine Rf.ite (tt_not (tt_tru (ev_call (ev_args (ev_ix (ev_unO (ev_var rfl) h_t53) ev_c rfl rfl) (ev_args (ev_ixP (e := (e2 eI eI)) (ev_unO (ev_var rfl) h_t54) ev_c rfl h_t55) ev_args0 rfl) rfl) (q_law_same _ h_t56)) rfl)) ?_ ?_
        · exact Rf.ret ev_c rfl ⟨⟨_, rfl⟩, .inl rfl, rfl⟩
        · refine Rf.skip ?_
          refine Rf.bd fun t57 h_t57 => ?_
          refine Rf.bd fun t58 h_t58 => ?_
          refine Rf.setT (t := ((t57.1 - (100 : Int)), ((1 : Int) + t58.1))) (e2 eI eI) (ev_tup (ev_args (ev_sub (ev_call (ev_args (ev_var rfl) (ev_args ev_c ev_args0 rfl) rfl) (q_law_draw tl h_t57)) ev_c) (ev_args (ev_add ev_c (ev_call (ev_args (ev_var rfl) (ev_args ev_c ev_args0 rfl) rfl) (q_law_draw tl h_t58))) ev_args0 rfl) rfl)) (fun _ => rfl) (fun _ => (sl_s (sl_s (sl_s (sl_s (sl_s (sl_s (sl_s (sl_s (sl_s (sl_s (sl_s sl_z)))))))))))) fun v_one59 => ?_
          refine Rf.bd fun t60 h_t60 => ?_
          refine Rf.bd fun t61 h_t61 => ?_
          refine Rf.setT (t := ((t60.1 - (100 : Int)), ((1 : Int) + t61.1))) (e2 eI eI) (ev_tup (ev_args (ev_sub (ev_call (ev_args (ev_var rfl) (ev_args ev_c ev_args0 rfl) rfl) (q_law_draw tl h_t60)) ev_c) (ev_args (ev_add ev_c (ev_call (ev_args (ev_var rfl) (ev_args ev_c ev_args0 rfl) rfl) (q_law_draw tl h_t61))) ev_args0 rfl) rfl)) (fun _ => rfl) (fun _ => (sl_s (sl_s (sl_s (sl_s (sl_s (sl_s (sl_s (sl_s (sl_s (sl_s (sl_s (sl_s sl_z))))))))))))) fun v_other62 => ?_
          refine Rf.bd fun t63 h_t63 => ?_
          refine Rf.thn (β := (Int × Int)) (fun j64 z' => z' = ⟨[.val (eD v_script), .val (.ref 1), .val (eI x14), .val (eI t16), .val ((eU (e3 eI eI eI)) t17.1), .val (eI t18.1), .val (eI t19.1), .val (eI v_x123), .val (eI v_z127), .val ((eO (eL (e2 eI eI))) t28), .val ((eO (e2 (e2 eI eI) (e2 eI eI))) t29), .val ((e2 eI eI) v_one59), .val ((e2 eI eI) j64)], (stT t63.2 tl)⟩) ?_ ?_
          · refine Rf.last ?_
            refine Rf.ite (tv (ev_eqI (ev_call (ev_args (ev_var rfl) (ev_args ev_c ev_args0 rfl) rfl) (q_law_draw tl h_t63)) ev_c)) ?_ ?_
            · refine Rf.bd fun t65 h_t65 => ?_
              refine Rf.bd fun t66 h_t66 => ?_
              refine Rf.setT (t := (t65, t66)) (e2 eI eI) (ev_tup (ev_args (ev_mulP ev_c (ev_ix (ev_var rfl) ev_c rfl rfl) h_t65) (ev_args (ev_mulP ev_c (ev_ix (ev_var rfl) ev_c rfl rfl) h_t66) ev_args0 rfl) rfl)) (fun _ => rfl) (fun _ => (sl_s (sl_s (sl_s (sl_s (sl_s (sl_s (sl_s (sl_s (sl_s (sl_s (sl_s (sl_s sl_z))))))))))))) fun v_other67 => ?_
              exact Rf.fin ⟨rfl, rfl⟩
            · refine Rf.skip ?_
              exact Rf.fin ⟨rfl, rfl⟩
          · rintro j64 _ ⟨rfl⟩
            refine Rf.bd fun t68 h_t68 => ?_
            refine Rf.set0 (d := eB t68) (ev_call (ev_args (ev_var rfl) (ev_args (ev_var rfl) ev_args0 rfl) rfl) (q_less _ h_t68)) rfl (sl_s (sl_s (sl_s (sl_s (sl_s (sl_s (sl_s (sl_s (sl_s (sl_s sl_z)))))))))) ?_
            refine Rf.last ?_
            refine Rf.bd fun t71 h_t71 => ?_
            refine Rf.ite (tt_orO (tt_not (tt_tru (ev_un (ev_var rfl) (lf_isi (t := "bool") rfl (by with_unfolding_all decide))) rfl)) (fun q hq => by obtain ⟨t69, h_t69, hq⟩ := bI hq; obtain ⟨t70, h_t70, hq⟩ := bI hq; cases hq; exact (tv (ev_ne (ev_var rfl) (ev_lt (ev_sub (ev_mulP (ev_ix (ev_var rfl) ev_c rfl rfl) (ev_ix (ev_var rfl) ev_c rfl rfl) h_t69) (ev_mulP (ev_ix (ev_var rfl) ev_c rfl rfl) (ev_ix (ev_var rfl) ev_c rfl rfl) h_t70)) ev_c) eqP_bl))) h_t71) ?_ ?_
            · exact Rf.ret ev_c rfl ⟨⟨_, rfl⟩, .inl rfl, rfl⟩
            · refine Rf.skip ?_
              exact Rf.fin ⟨.inl rfl, (some (eI x14)), (some (eI t16)), (some ((eU (e3 eI eI eI)) t17.1)), (some (eI t18.1)), (some (eI t19.1)), (some (eI v_x123)), (some (eI v_z127)), (some ((eO (eL (e2 eI eI))) t28)), (some (eB t68)), (some ((e2 eI eI) v_one59)), (some ((e2 eI eI) j64)), rfl⟩
  · rintro s2 _ ⟨X3, X4, X5, X6, X7, X8, X9, X10, X11, X12, X13, rfl⟩
    refine Rf.last ?_
    exact Rf.ret ev_c rfl ⟨.inl rfl, rfl⟩
  · intro r r' f z' hk hr; cases hk; exact hr.2
end W

set_option Elab.async false
set_option linter.all false
set_option maxRecDepth 100000
/-! more of the reasoning over plain terms -/
namespace Mi
open PySem L2
section
variable {α β γ σ ρ : Type} {Φ : α → Prop}
/-- a comprehension by draws: each element by what it was made of -/
theorem Tot.cmpS {f : β → σ → Option (γ × σ)} {P : β → γ → Prop} : ∀ {xs : List β} {s : σ}, (∀ x ∈ xs, ∀ s, Tot (f x s) fun q => P x q.1) → Tot (Pl.cmpS f xs s) fun r => r.1.length = xs.length ∧ ∀ y ∈ r.1, ∃ x ∈ xs, P x y
  | [], s, _ => ⟨([], s), rfl, rfl, fun _ h => nomatch h⟩
  | x :: xs, s, h => by
    obtain ⟨q, e, p⟩ := h x List.mem_cons_self s
    obtain ⟨r, e2, p2, p3⟩ := Tot.cmpS (xs := xs) (s := q.2) fun y hy => h y (List.mem_cons_of_mem _ hy)
    refine ⟨(q.1 :: r.1, r.2), ?_, by simp [p2], fun y hy => ?_⟩
    · rw [Pl.cmpS, e]
      show (Pl.cmpS f xs q.2).bind _ = _
      rw [e2]
      rfl
    · rcases List.mem_cons.mp hy with rfl | hy
      · exact ⟨x, List.mem_cons_self, p⟩
      · obtain ⟨z, hz, pz⟩ := p3 y hy
        exact ⟨z, List.mem_cons_of_mem _ hz, pz⟩
theorem Tot.compS {f : β → σ → Option (γ × σ)} {xs : List β} {s : σ} {K : List γ × σ → Option α} (P : β → γ → Prop) (hl : xs.length ≤ szl) (h : ∀ x ∈ xs, ∀ s, Tot (f x s) fun q => P x q.1)
    (k : ∀ ys s, ys.length = xs.length → (∀ y ∈ ys, ∃ x ∈ xs, P x y) → Tot (K (ys, s)) Φ) : Tot ((Pl.compS f xs s).bind K) Φ := by
  refine Tot.bind (Ψ := fun r => r.1.length = xs.length ∧ ∀ y ∈ r.1, ∃ x ∈ xs, P x y) ?_ fun r q => k r.1 r.2 q.1 q.2
  unfold Pl.compS
  rw [if_pos hl]
  exact Tot.cmpS h
theorem Tot.compS3 {f : β → σ → Option (γ × σ)} {a b c : β} {s : σ} {K : List γ × σ → Option α} (P : β → γ → Prop) (h : ∀ x ∈ [a, b, c], ∀ s, Tot (f x s) fun q => P x q.1)
    (k : ∀ x y z s, P a x → P b y → P c z → Tot (K ([x, y, z], s)) Φ) : Tot ((Pl.compS f [a, b, c] s).bind K) Φ := by
  obtain ⟨q0, e0, p0⟩ := h a (by simp) s
  obtain ⟨q1, e1, p1⟩ := h b (by simp) q0.2
  obtain ⟨q2, e2, p2⟩ := h c (by simp) q1.2
  refine Tot.of (r := ([q0.1, q1.1, q2.1], q2.2)) ?_ (k _ _ _ _ p0 p1 p2)
  unfold Pl.compS
  rw [if_pos (show [a, b, c].length ≤ szl from (by decide : 3 ≤ szl))]
  simp only [Pl.cmpS, e0, e1, e2, Option.bind_some]
theorem rng3O : Pl.rngO 0 (3 : Int) = some [0, 1, 2] := by
  unfold Pl.rngO
  rw [if_pos (by decide)]
  rfl
theorem forN3 {f : β → σ → Option σ} {a b c : β} {s s1 s2 s3 : σ} (h0 : f a s = some s1) (h1 : f b s1 = some s2) (h2 : f c s2 = some s3) : Pl.forN f [a, b, c] s = some s3 := by
  simp [Pl.forN, h0, h1, h2]
theorem comp3 {f : β → Option γ} {a b c : β} {x y z : γ} (h0 : f a = some x) (h1 : f b = some y) (h2 : f c = some z) : Pl.comp (fun _ => some true) f [a, b, c] = some [x, y, z] := by
  unfold Pl.comp
  rw [if_pos (show [a, b, c].length ≤ szl from (by decide : 3 ≤ szl))]
  simp [Pl.cmp, h0, h1, h2]
theorem Tot.for3 {f : β → σ → Option σ} {a b c : β} {s : σ} {K : σ → Option α} (s1 s2 s3 : σ) (h0 : Tot (f a s) fun r => r = s1) (h1 : Tot (f b s1) fun r => r = s2) (h2 : Tot (f c s2) fun r => r = s3) (k : Tot (K s3) Φ) : Tot ((Pl.forN f [a, b, c] s).bind K) Φ :=
  Tot.of (forN3 h0.get h1.get h2.get) k
theorem forO3 {f : β → Unit → Option (Pl.Out Unit Bool)} {a b c : β} {p q r : Bool} (h0 : f a () = some (if p = true then .ret true else .go ())) (h1 : f b () = some (if q = true then .ret true else .go ())) (h2 : f c () = some (if r = true then .ret true else .go ())) :
    Pl.forO f [a, b, c] () = some (if (p || (q || r)) = true then .inr true else .inl ()) := by
  cases p <;> cases q <;> cases r <;> simp [Pl.forO, h0, h1, h2]
theorem forO_congr {f g : β → σ → Option (Pl.Out σ ρ)} : ∀ {xs : List β} (s : σ), (∀ x ∈ xs, ∀ s, f x s = g x s) → Pl.forO f xs s = Pl.forO g xs s
  | [], s, _ => rfl
  | x :: xs, s, h => by
    rw [Pl.forO, Pl.forO, h x List.mem_cons_self s]
    cases g x s with
    | none => rfl
    | some o =>
      cases o with
      | go s2 => exact forO_congr (xs := xs) s2 fun y hy => h y (List.mem_cons_of_mem _ hy)
      | brk s2 => rfl
      | ret r => rfl
theorem out_congr {f g : β → σ → Option (Pl.Out σ ρ)} {xs : List β} {s : σ} {K1 K2 : σ → Option α} {E : ρ → Option α} (h : ∀ x ∈ xs, ∀ s, f x s = g x s) (k : ∀ s, K1 s = K2 s) : (Pl.forO f xs s).bind (Pl.out K1 E) = (Pl.forO g xs s).bind (Pl.out K2 E) := by
  rw [forO_congr s h, show K1 = K2 from funext k]
/-- the members by their places -/
theorem at_mem {xs : List β} {i : Int} (h : i ∈ Pl.rng 0 (xs.length : Int)) : ∃ x ∈ xs, Pl.at_ xs i = some x := by
  obtain ⟨h0, h1⟩ := rng_mem.mp h
  obtain ⟨x, e, e2⟩ := at_in h0 h1
  exact ⟨x, List.mem_of_getElem? e, e2⟩
theorem mem_at {xs : List β} {x : β} (h : x ∈ xs) : ∃ i ∈ Pl.rng 0 (xs.length : Int), Pl.at_ xs i = some x := by
  obtain ⟨n, hn, e⟩ := List.getElem_of_mem h
  refine ⟨(n : Int), rng_mem.mpr ⟨by omega, by omega⟩, at_t rfl ?_⟩
  rw [List.getElem?_eq_getElem hn, e]
end
end Mi

set_option Elab.async false
set_option linter.all false
set_option maxRecDepth 100000
/-! plain: one unknown taken out of rows (Fourier, Motzkin), in whole numbers -/
namespace FM
def ok (s : Bool) (x : Int) : Prop := 0 ≤ x ∧ (s = true → 0 < x)
theorem ok.scale {s : Bool} {x m : Int} (h : ok s x) (hm : 0 < m) : ok s (m * x) := ⟨Int.mul_nonneg (by omega) h.1, fun e => Int.mul_pos hm (h.2 e)⟩
theorem ok.unscale {s : Bool} {x m : Int} (h : ok s (m * x)) (hm : 0 < m) : ok s x := ⟨Int.nonneg_of_mul_nonneg_right h.1 hm, fun e => Int.pos_of_mul_pos_right (h.2 e) hm⟩
theorem ok.add {s t : Bool} {x y : Int} (h : ok s x) (g : ok t y) : ok (s || t) (x + y) := by
  refine ⟨Int.add_nonneg h.1 g.1, fun e => ?_⟩
  have h1 := h.1
  have g1 := g.1
  cases s with
  | true => have := h.2 rfl; omega
  | false =>
    cases t with
    | true => have := g.2 rfl; omega
    | false => cases e
theorem ok.swap {s t : Bool} {x : Int} (h : ok (s || t) x) : ok (t || s) x := by rw [Bool.or_comm]; exact h
section
variable {ρ : Type}
/-- of rows with a positive share, the one that binds most -/
theorem least {β L : ρ → Int} : ∀ {R : List ρ}, (∀ r ∈ R, 0 < β r) → R ≠ [] → ∃ q ∈ R, ∀ r ∈ R, L q * β r ≤ L r * β q
  | [], _, h => absurd rfl h
  | [r], _, _ => ⟨r, List.mem_cons_self, fun x hx => by rw [List.mem_singleton.mp hx]; exact Int.le_refl _⟩
  | r :: r2 :: R, hp, _ => by
    obtain ⟨q, hq, k⟩ := least (β := β) (L := L) (R := r2 :: R) (fun x hx => hp x (List.mem_cons_of_mem _ hx)) (by simp)
    have pr := hp r List.mem_cons_self
    have pq := hp q (List.mem_cons_of_mem _ hq)
    by_cases c : L q * β r ≤ L r * β q
    · refine ⟨q, List.mem_cons_of_mem _ hq, fun x hx => ?_⟩
      rcases List.mem_cons.mp hx with rfl | hx
      · exact c
      · exact k x hx
    · refine ⟨r, List.mem_cons_self, fun x hx => ?_⟩
      rcases List.mem_cons.mp hx with rfl | hx
      · exact Int.le_refl _
      · have h1 := k x hx
        have px := hp x (List.mem_cons_of_mem _ hx)
        have h2 : L r * β q ≤ L q * β r := by omega
        have h3 : β q * (L r * β x) ≤ β q * (L x * β r) := by
          have a1 := Int.mul_le_mul_of_nonneg_left h2 (show 0 ≤ β x by omega)
          have a2 := Int.mul_le_mul_of_nonneg_left h1 (show 0 ≤ β r by omega)
          calc β q * (L r * β x) = β x * (L r * β q) := by grind
            _ ≤ β x * (L q * β r) := a1
            _ = β r * (L q * β x) := by grind
            _ ≤ β r * (L x * β q) := a2
            _ = β q * (L x * β r) := by grind
        exact Int.le_of_mul_le_mul_left h3 pq
/-- the rows after one unknown is taken out hold iff some value of it satisfies all, scaled -/
theorem out {β L : ρ → Int} {s : ρ → Bool} {R : List ρ} : (∃ V m, 0 < m ∧ ∀ r ∈ R, ok (s r) (β r * V + m * L r)) ↔
    (∀ r ∈ R, β r = 0 → ok (s r) (L r)) ∧ ∀ i ∈ R, ∀ j ∈ R, 0 < β i → β j < 0 → ok (s i || s j) (L i * (0 - β j) + L j * β i) := by
  constructor
  · rintro ⟨V, m, hm, h⟩
    refine ⟨fun r hr e => ?_, fun i hi j hj bi bj => ?_⟩
    · have := h r hr
      rw [e, Int.zero_mul, Int.zero_add] at this
      exact this.unscale hm
    · have h1 := (h i hi).scale (show 0 < 0 - β j by omega)
      have h2 := (h j hj).scale bi
      have h3 := h1.add h2
      have e : (0 - β j) * (β i * V + m * L i) + β i * (β j * V + m * L j) = m * (L i * (0 - β j) + L j * β i) := by grind
      rw [e] at h3
      exact h3.unscale hm
  · rintro ⟨h0, hp⟩
    have zero : ∀ {m V : Int}, 0 < m → ∀ r ∈ R, β r = 0 → ok (s r) (β r * V + m * L r) := fun {m V} hm r hr e => by
      rw [e, Int.zero_mul, Int.zero_add]
      exact (h0 r hr e).scale hm
    have pos : ∀ r, r ∈ R.filter (fun r => decide (0 < β r)) ↔ r ∈ R ∧ 0 < β r := fun r => by rw [List.mem_filter, decide_eq_true_eq]
    have neg : ∀ r, r ∈ R.filter (fun r => decide (β r < 0)) ↔ r ∈ R ∧ β r < 0 := fun r => by rw [List.mem_filter, decide_eq_true_eq]
    by_cases cp : R.filter (fun r => decide (0 < β r)) = []
    · have np : ∀ r ∈ R, ¬ 0 < β r := fun r hr h => by
        have := (pos r).mpr ⟨hr, h⟩
        rw [cp] at this
        cases this
      by_cases cn : R.filter (fun r => decide (β r < 0)) = []
      · refine ⟨0, 1, by decide, fun r hr => zero (by decide) r hr ?_⟩
        have h1 := np r hr
        have : ¬ β r < 0 := fun h => by
          have := (neg r).mpr ⟨hr, h⟩
          rw [cn] at this
          cases this
        omega
      · obtain ⟨j, hj, k⟩ := least (β := fun r => 0 - β r) (L := L) (fun r hr => by have := ((neg r).mp hr).2; omega) cn
        obtain ⟨hj, bj⟩ := (neg j).mp hj
        refine ⟨L j - (0 - β j), 0 - β j, by omega, fun r hr => ?_⟩
        by_cases e : β r = 0
        · exact zero (by omega) r hr e
        · have h1 := np r hr
          have h2 := k r ((neg r).mpr ⟨hr, by omega⟩)
          have h3 : 0 < (0 - β r) * (0 - β j) := Int.mul_pos (by omega) (by omega)
          have e2 : β r * (L j - (0 - β j)) + (0 - β j) * L r = (L r * (0 - β j) - L j * (0 - β r)) + (0 - β r) * (0 - β j) := by grind
          rw [e2]
          exact ⟨by omega, fun _ => by omega⟩
    · obtain ⟨i, hi, k⟩ := least (β := β) (L := L) (fun r hr => ((pos r).mp hr).2) cp
      obtain ⟨hi, bi⟩ := (pos i).mp hi
      by_cases cn : R.filter (fun r => decide (β r < 0)) = []
      · have nn : ∀ r ∈ R, ¬ β r < 0 := fun r hr h => by
          have := (neg r).mpr ⟨hr, h⟩
          rw [cn] at this
          cases this
        refine ⟨β i - L i, β i, bi, fun r hr => ?_⟩
        by_cases e : β r = 0
        · exact zero bi r hr e
        · have h1 := nn r hr
          have h2 := k r ((pos r).mpr ⟨hr, by omega⟩)
          have h3 : 0 < β r * β i := Int.mul_pos (by omega) bi
          have e2 : β r * (β i - L i) + β i * L r = (L r * β i - L i * β r) + β r * β i := by grind
          rw [e2]
          exact ⟨by omega, fun _ => by omega⟩
      · obtain ⟨j, hj, kj⟩ := least (β := fun r => 0 - β r) (L := L) (fun r hr => by have := ((neg r).mp hr).2; omega) cn
        obtain ⟨hj, bj⟩ := (neg j).mp hj
        have hij := hp i hi j hj bi bj
        have bn : 0 < 0 - β j := by omega
        -- the middle of the two bounds
        refine ⟨L j * β i - L i * (0 - β j), 2 * (β i * (0 - β j)), by have := Int.mul_pos bi bn; omega, fun r hr => ?_⟩
        by_cases e : β r = 0
        · exact zero (by have := Int.mul_pos bi bn; omega) r hr e
        · by_cases c : 0 < β r
          · have h2 := k r ((pos r).mpr ⟨hr, c⟩)
            have hrj := hp r hr j hj c bj
            -- twice (0 - β j) times (L r β i - L i β r), and β r times the pair's sum
            have a1 := Int.mul_nonneg (show (0 : Int) ≤ 0 - β j by omega) (show 0 ≤ L r * β i - L i * β r by omega)
            have a2 := Int.mul_nonneg (show 0 ≤ β r by omega) hij.1
            have e2 : β r * (L j * β i - L i * (0 - β j)) + 2 * (β i * (0 - β j)) * L r = 2 * ((0 - β j) * (L r * β i - L i * β r)) + β r * (L i * (0 - β j) + L j * β i) := by grind
            have e3 : β i * (L r * (0 - β j) + L j * β r) = (0 - β j) * (L r * β i - L i * β r) + β r * (L i * (0 - β j) + L j * β i) := by grind
            rw [e2]
            refine ⟨by omega, fun es => ?_⟩
            have h3 := Int.mul_pos bi (hrj.2 (by rw [es]; rfl))
            omega
          · have h2 := kj r ((neg r).mpr ⟨hr, by omega⟩)
            have hir := hp i hi r hr bi (by omega)
            have a1 := Int.mul_nonneg (show (0 : Int) ≤ β i by omega) (show 0 ≤ L r * (0 - β j) - L j * (0 - β r) by omega)
            have a2 := Int.mul_nonneg (show 0 ≤ 0 - β r by omega) hij.1
            have e2 : β r * (L j * β i - L i * (0 - β j)) + 2 * (β i * (0 - β j)) * L r = 2 * (β i * (L r * (0 - β j) - L j * (0 - β r))) + (0 - β r) * (L i * (0 - β j) + L j * β i) := by grind
            have e3 : (0 - β j) * (L i * (0 - β r) + L r * β i) = β i * (L r * (0 - β j) - L j * (0 - β r)) + (0 - β r) * (L i * (0 - β j) + L j * β i) := by grind
            rw [e2]
            refine ⟨by omega, fun es => ?_⟩
            have h3 := Int.mul_pos bn (hir.2 (by rw [es]; exact Bool.or_true _))
            omega
end
end FM

set_option Elab.async false
set_option linter.all false
set_option maxRecDepth 100000
set_option maxHeartbeats 1000000
/-! plain: weights of three points; what is left of them ahead of planes -/
namespace Wt
abbrev A3 := Int × Int × Int
def dot (f w : A3) : Int := f.1 * w.1 + f.2.1 * w.2.1 + f.2.2 * w.2.2
def mix (a b : Int) (u v : A3) : A3 := (a * u.1 + b * v.1, a * u.2.1 + b * v.2.1, a * u.2.2 + b * v.2.2)
theorem dot_mix (f : A3) (a b : Int) (u v : A3) : dot f (mix a b u v) = a * dot f u + b * dot f v := by
  unfold dot mix
  dsimp only
  grind
theorem mix_dot (a b : Int) (f g w : A3) : dot (mix a b f g) w = a * dot f w + b * dot g w := by
  unfold dot mix
  dsimp only
  grind
def one : A3 := (1, 1, 1)
def nn (w : A3) : Prop := 0 ≤ w.1 ∧ 0 ≤ w.2.1 ∧ 0 ≤ w.2.2
theorem nn.mix {u v : A3} {a b : Int} (hu : nn u) (hv : nn v) (ha : 0 ≤ a) (hb : 0 ≤ b) : nn (mix a b u v) :=
  ⟨Int.add_nonneg (Int.mul_nonneg ha hu.1) (Int.mul_nonneg hb hv.1), Int.add_nonneg (Int.mul_nonneg ha hu.2.1) (Int.mul_nonneg hb hv.2.1), Int.add_nonneg (Int.mul_nonneg ha hu.2.2) (Int.mul_nonneg hb hv.2.2)⟩
/-! ### clipping -/
def absI (i : Int) : Int := if i < 0 then -i else i
def cross (h u v : A3) : Bool := (decide (0 < dot h u) && decide (dot h v < 0)) || (decide (dot h u < 0) && decide (0 < dot h v))
def cut (h u v : A3) : A3 := mix (absI (dot h v)) (absI (dot h u)) u v
def step (h p c : A3) : List A3 := (if cross h p c = true then [cut h p c] else []) ++ (if dot h c ≤ 0 then [c] else [])
def clipF (h : A3) : A3 → List A3 → List A3
  | _, [] => []
  | p, c :: cs => step h p c ++ clipF h c cs
def lastO (p : A3) : List A3 → A3
  | [] => p
  | c :: cs => lastO c cs
theorem lastO_snoc (p x : A3) : ∀ xs, lastO p (xs ++ [x]) = x
  | [] => rfl
  | c :: cs => lastO_snoc c x cs
theorem clipF_snoc (h x : A3) : ∀ (p : A3) (xs : List A3), clipF h p (xs ++ [x]) = clipF h p xs ++ step h (lastO p xs) x
  | p, [] => by simp [clipF, lastO]
  | p, c :: cs => by
    rw [List.cons_append, clipF, clipF_snoc h x c cs, clipF, lastO, List.append_assoc]
def clip (h : A3) (U : List A3) : List A3 := match U.getLast? with
  | none => []
  | some l => clipF h l U
theorem cut_zero {h u v : A3} (c : cross h u v = true) : dot h (cut h u v) = 0 := by
  unfold cut
  rw [dot_mix]
  unfold cross at c
  rw [Bool.or_eq_true, Bool.and_eq_true, Bool.and_eq_true] at c
  simp only [decide_eq_true_eq] at c
  unfold absI
  rcases c with ⟨c1, c2⟩ | ⟨c1, c2⟩
  · rw [if_pos c2, if_neg (by omega)]
    grind
  · rw [if_neg (by omega), if_pos c1]
    grind
theorem cross_pos {h u v : A3} (c : cross h u v = true) : 0 < absI (dot h v) ∧ 0 < absI (dot h u) := by
  unfold cross at c
  rw [Bool.or_eq_true, Bool.and_eq_true, Bool.and_eq_true] at c
  simp only [decide_eq_true_eq] at c
  unfold absI
  rcases c with ⟨c1, c2⟩ | ⟨c1, c2⟩
  · rw [if_pos c2, if_neg (by omega)]
    omega
  · rw [if_neg (by omega), if_pos c1]
    omega
/-- what is in a clip: kept ones and cuts -/
theorem clipF_mem {h : A3} {P : A3 → Prop} : ∀ {p : A3} {U : List A3}, P p → (∀ u ∈ U, P u) → (∀ u v, P u → P v → cross h u v = true → P (cut h u v)) → ∀ r ∈ clipF h p U, P r ∧ dot h r ≤ 0
  | p, [], _, _, _ => fun r hr => nomatch hr
  | p, c :: cs, hp, hU, hc => fun r hr => by
    have pc := hU c List.mem_cons_self
    rw [clipF, List.mem_append] at hr
    rcases hr with hr | hr
    · unfold step at hr
      rw [List.mem_append] at hr
      rcases hr with hr | hr
      · split at hr
        · rename_i x
          rw [List.mem_singleton.mp hr]
          exact ⟨hc p c hp pc x, by rw [cut_zero x]; exact Int.le_refl _⟩
        · cases hr
      · split at hr
        · rename_i x
          rw [List.mem_singleton.mp hr]
          exact ⟨pc, x⟩
        · cases hr
    · exact clipF_mem pc (fun u hu => hU u (List.mem_cons_of_mem _ hu)) hc r hr
/-- neighbours in a row -/
def chn (R : A3 → A3 → Prop) : A3 → List A3 → Prop
  | _, [] => True
  | p, c :: cs => R p c ∧ chn R c cs
theorem chn_app {R : A3 → A3 → Prop} : ∀ {p : A3} {xs ys : List A3}, chn R p (xs ++ ys) ↔ chn R p xs ∧ chn R (lastO p xs) ys
  | p, [], ys => by simp [chn, lastO]
  | p, c :: cs, ys => by
    rw [List.cons_append, chn, chn, lastO, chn_app (xs := cs), and_assoc]
theorem clipF_all {h : A3} {P : A3 → Prop} : ∀ {p : A3} {U : List A3}, (∀ r ∈ clipF h p U, P r) → chn (fun u v => cross h u v = true → P (cut h u v)) p U ∧ ∀ u ∈ U, dot h u ≤ 0 → P u
  | p, [], _ => ⟨trivial, fun u hu => nomatch hu⟩
  | p, c :: cs, hr => by
    obtain ⟨h1, h2⟩ := clipF_all (p := c) (U := cs) fun r hr2 => hr r (by rw [clipF]; exact List.mem_append_right _ hr2)
    have hs : ∀ r ∈ step h p c, P r := fun r hr2 => hr r (by rw [clipF]; exact List.mem_append_left _ hr2)
    unfold step at hs
    refine ⟨⟨fun x => hs _ (by rw [if_pos x]; exact List.mem_append_left _ (List.mem_singleton.mpr rfl)), h1⟩, fun u hu hl => ?_⟩
    rcases List.mem_cons.mp hu with rfl | hu
    · exact hs _ (by rw [if_pos hl]; exact List.mem_append_right _ (List.mem_singleton.mpr rfl))
    · exact h2 u hu hl
/-! ### signs around -/
def sg (f u : A3) : Bool := decide (dot f u < 0)
def Alt (l : List Bool) : Prop := ∃ b : Bool, [b, !b, b, !b].Sublist l
def altn : List Bool → Prop
  | [] => True
  | b :: bs => bs.head? ≠ some b ∧ altn bs
theorem sub_tail {b : Bool} : ∀ {B l : List Bool}, B.Sublist (b :: l) → B.head? ≠ some b → B.Sublist l
  | [], l, _, _ => List.nil_sublist _
  | x :: B, l, h, hb => by
    cases h with
    | cons _ h => exact h
    | cons_cons _ h => exact absurd rfl hb
theorem cut_sg {f h u v : A3} (c : cross h u v = true) : sg f (cut h u v) = sg f u ∨ sg f (cut h u v) = sg f v := by
  obtain ⟨ha, hb⟩ := cross_pos c
  unfold sg cut
  rw [dot_mix]
  generalize absI (dot h v) = a at *
  generalize absI (dot h u) = b at *
  by_cases hu : dot f u < 0
  · by_cases hv : dot f v < 0
    · left
      rw [decide_eq_true hu, decide_eq_true_eq]
      have := Int.mul_neg_of_pos_of_neg ha hu
      have := Int.mul_neg_of_pos_of_neg hb hv
      omega
    · by_cases hc : a * dot f u + b * dot f v < 0
      · left; rw [decide_eq_true hu, decide_eq_true hc]
      · right; rw [decide_eq_false hv, decide_eq_false hc]
  · by_cases hv : dot f v < 0
    · by_cases hc : a * dot f u + b * dot f v < 0
      · right; rw [decide_eq_true hv, decide_eq_true hc]
      · left; rw [decide_eq_false hu, decide_eq_false hc]
    · left
      rw [decide_eq_false hu, decide_eq_false_iff_not]
      have := Int.mul_nonneg (show 0 ≤ a by omega) (show 0 ≤ dot f u by omega)
      have := Int.mul_nonneg (show 0 ≤ b by omega) (show 0 ≤ dot f v by omega)
      omega
theorem altn_app {B1 B2 : List Bool} : altn (B1 ++ B2) → altn B2 := by
  induction B1 with
  | nil => exact id
  | cons b B ih => exact fun h => ih h.2
theorem clip_alt {f h : A3} : ∀ {p : A3} {cs : List A3} {B : List Bool}, altn B → B.Sublist ((clipF h p cs).map (sg f)) → B.Sublist (sg f p :: cs.map (sg f))
  | p, [], B, _, hs => by
    rw [clipF, List.map_nil] at hs
    exact hs.trans (List.nil_sublist _)
  | p, c :: cs, B, ha, hs => by
    rw [clipF, List.map_append] at hs
    obtain ⟨B1, B2, rfl, h1, h2⟩ := List.sublist_append_iff.mp hs
    have ih := clip_alt (altn_app ha) h2
    rw [List.map_cons]
    have hB1 : B1 = [] ∨ B1 = [sg f c] ∨ (∃ x, (x = sg f p ∨ x = sg f c) ∧ (B1 = [x] ∨ B1 = [x, sg f c])) := by
      unfold step at h1
      rw [List.map_append] at h1
      by_cases x : cross h p c = true
      · rw [if_pos x] at h1
        by_cases y : dot h c ≤ 0
        · rw [if_pos y] at h1
          have h1 : B1.Sublist [sg f (cut h p c), sg f c] := h1
          have k := cut_sg (f := f) x
          cases h1 with
          | cons _ h1 =>
            cases h1 with
            | cons _ h1 => cases h1; exact .inl rfl
            | cons_cons _ h1 => cases h1; exact .inr (.inl rfl)
          | cons_cons _ h1 =>
            cases h1 with
            | cons _ h1 => cases h1; exact .inr (.inr ⟨_, k, .inl rfl⟩)
            | cons_cons _ h1 => cases h1; exact .inr (.inr ⟨_, k, .inr rfl⟩)
        · rw [if_neg y] at h1
          have h1 : B1.Sublist [sg f (cut h p c)] := h1
          have k := cut_sg (f := f) x
          cases h1 with
          | cons _ h1 => cases h1; exact .inl rfl
          | cons_cons _ h1 => cases h1; exact .inr (.inr ⟨_, k, .inl rfl⟩)
      · rw [if_neg x] at h1
        by_cases y : dot h c ≤ 0
        · rw [if_pos y] at h1
          have h1 : B1.Sublist [sg f c] := h1
          cases h1 with
          | cons _ h1 => cases h1; exact .inl rfl
          | cons_cons _ h1 => cases h1; exact .inr (.inl rfl)
        · rw [if_neg y] at h1
          have h1 : B1.Sublist [] := h1
          cases h1
          exact .inl rfl
    rcases hB1 with rfl | rfl | ⟨x, hx, rfl | rfl⟩
    · exact ih.trans (List.sublist_cons_self _ _)
    · exact ((sub_tail ih ha.1).cons_cons _).trans (List.sublist_cons_self _ _)
    · rcases hx with rfl | rfl
      · exact ih.cons_cons _
      · exact ((sub_tail ih ha.1).cons_cons _).trans (List.sublist_cons_self _ _)
    · have a1 : x ≠ sg f c := fun e => ha.1 (by rw [e]; rfl)
      rcases hx with rfl | rfl
      · exact ((sub_tail ih ha.2.1).cons_cons _).cons_cons _
      · exact absurd rfl a1
theorem alt4n (b : Bool) : altn [b, !b, b, !b] := by cases b <;> simp [altn]
theorem sub_snoc {b : Bool} {B l : List Bool} (h : B.Sublist (l ++ [b])) (hb : B.getLast? ≠ some b) : B.Sublist l := by
  have h1 := List.reverse_sublist.mpr h
  rw [List.reverse_append] at h1
  have h2 := sub_tail (B := B.reverse) (l := l.reverse) (b := b) h1 (by rw [List.head?_reverse]; exact hb)
  exact List.reverse_sublist.mp h2
theorem clip_noalt {f h : A3} {U : List A3} (h0 : ¬ Alt (U.map (sg f))) : ¬ Alt ((clip h U).map (sg f)) := by
  rintro ⟨b, hs⟩
  rcases List.eq_nil_or_concat U with rfl | ⟨U, l, rfl⟩
  · cases hs
  · rw [List.concat_eq_append] at *
    unfold clip at hs
    rw [List.getLast?_concat] at hs
    have k := clip_alt (alt4n b) hs
    by_cases e : sg f l = b
    · cases k with
      | cons _ k => exact h0 ⟨b, k⟩
      | cons_cons _ k =>
        rw [List.map_append, List.map_cons, List.map_nil] at k
        have k2 := sub_snoc k (by cases sg f l <;> simp)
        refine h0 ⟨!sg f l, ?_⟩
        rw [List.map_append, List.map_cons, List.map_nil]
        have := k2.append (List.Sublist.refl [sg f l])
        rw [Bool.not_not]
        exact this
    · exact h0 ⟨b, sub_tail k (by simp only [List.head?_cons]; intro h; exact e (Option.some.inj h).symm)⟩
/-- along a path from one side to the other there is one that g does not name -/
theorem arc {h g : A3} : ∀ {L : List A3} {a b : A3}, chn (fun u v => cross h u v = true → 0 ≤ dot g (cut h u v)) a (L ++ [b]) → (∀ v ∈ L, dot h v = 0 → 0 ≤ dot g v) → dot h a ≠ 0 → cross h a b = true → dot g a < 0 → dot g b < 0 → ∃ v ∈ L, 0 ≤ dot g v
  | [], a, b, hc, _, _, hx, ga, gb => by
    have := hc.1 hx
    unfold cut at this
    rw [dot_mix] at this
    obtain ⟨p, q⟩ := cross_pos hx
    have := Int.mul_neg_of_pos_of_neg p ga
    have := Int.mul_neg_of_pos_of_neg q gb
    omega
  | v :: L, a, b, hc, hz, ha, hx, ga, gb => by
    by_cases gv : 0 ≤ dot g v
    · exact ⟨v, List.mem_cons_self, gv⟩
    · have hv0 : dot h v ≠ 0 := fun e => gv (hz v List.mem_cons_self e)
      have hav : ¬ cross h a v = true := fun x => by
        have := hc.1 x
        unfold cut at this
        rw [dot_mix] at this
        obtain ⟨p, q⟩ := cross_pos x
        have := Int.mul_neg_of_pos_of_neg p ga
        have := Int.mul_neg_of_pos_of_neg q (show dot g v < 0 by omega)
        omega
      have hx2 : cross h v b = true := by
        unfold cross at hx hav ⊢
        simp only [Bool.or_eq_true, Bool.and_eq_true, decide_eq_true_eq] at hx hav ⊢
        omega
      obtain ⟨w, hw, k⟩ := arc hc.2 (fun u hu => hz u (List.mem_cons_of_mem _ hu)) hv0 hx2 (by omega) gb
      exact ⟨w, List.mem_cons_of_mem _ hw, k⟩
theorem lastO_of {p : A3} : ∀ {xs : List A3} {q : A3}, lastO p (xs ++ [q]) = q := fun {xs q} => lastO_snoc p q xs
/-- every pair's cut is between the kept ones and the neighbours' cuts -/
theorem pair {h Φ : A3} {U : List A3} (na : ∀ f, ¬ Alt (U.map (sg f))) (hΦ : ∀ r ∈ clip h U, 0 ≤ dot Φ r) {i j : A3} (hi : i ∈ U) (hj : j ∈ U) (pi : 0 < dot h i) (pj : dot h j < 0) : 0 ≤ dot Φ i * (0 - dot h j) + dot Φ j * dot h i := by
  apply Classical.byContradiction
  intro hE
  have hE : dot Φ i * (0 - dot h j) + dot Φ j * dot h i < 0 := by omega
  let g : A3 := mix (-(2 * (dot h i * dot h j))) (dot Φ j * dot h i + dot Φ i * dot h j) Φ h
  have den : 0 < -(2 * (dot h i * dot h j)) := by
    have := Int.mul_neg_of_pos_of_neg pi pj
    omega
  have gi : dot g i < 0 := by
    show dot (mix _ _ Φ h) i < 0
    rw [mix_dot]
    have e : -(2 * (dot h i * dot h j)) * dot Φ i + (dot Φ j * dot h i + dot Φ i * dot h j) * dot h i = dot h i * (dot Φ i * (0 - dot h j) + dot Φ j * dot h i) := by grind
    rw [e]
    exact Int.mul_neg_of_pos_of_neg pi hE
  have gj : dot g j < 0 := by
    show dot (mix _ _ Φ h) j < 0
    rw [mix_dot]
    have e : -(2 * (dot h i * dot h j)) * dot Φ j + (dot Φ j * dot h i + dot Φ i * dot h j) * dot h j = (0 - dot h j) * (dot Φ i * (0 - dot h j) + dot Φ j * dot h i) := by grind
    rw [e]
    exact Int.mul_neg_of_pos_of_neg (by omega) hE
  have gz : ∀ r, dot h r = 0 → 0 ≤ dot Φ r → 0 ≤ dot g r := fun r e k => by
    show 0 ≤ dot (mix _ _ Φ h) r
    rw [mix_dot, e, Int.mul_zero, Int.add_zero]
    exact Int.mul_nonneg (by omega) k
  obtain ⟨l, hl⟩ : ∃ l, U.getLast? = some l := by
    cases hU : U.getLast? with
    | none => rw [List.getLast?_eq_none_iff.mp hU] at hi; cases hi
    | some l => exact ⟨l, rfl⟩
  unfold clip at hΦ
  rw [hl] at hΦ
  obtain ⟨hc, hk⟩ := clipF_all hΦ
  have hz : ∀ v ∈ U, dot h v = 0 → 0 ≤ dot g v := fun v hv e => gz v e (hk v hv (by omega))
  have hcg : chn (fun u v => cross h u v = true → 0 ≤ dot g (cut h u v)) l U := by
    have mono : ∀ {p : A3} {xs : List A3}, chn (fun u v => cross h u v = true → 0 ≤ dot Φ (cut h u v)) p xs → chn (fun u v => cross h u v = true → 0 ≤ dot g (cut h u v)) p xs := by
      intro p xs
      induction xs generalizing p with
      | nil => exact id
      | cons c cs ih => exact fun k => ⟨fun x => gz _ (cut_zero x) (k.1 x), ih k.2⟩
    exact mono hc
  -- the two stand somewhere
  have key : ∀ {p q : A3} {A B C : List A3}, U = A ++ p :: (B ++ q :: C) → dot h p ≠ 0 → dot h q ≠ 0 → cross h p q = true → cross h q p = true → dot g p < 0 → dot g q < 0 → False := by
    intro p q A B C eU hp hq x1 x2 gp gq
    subst eU
    have s1 := chn_app.mp hcg
    have s2 := chn_app (xs := B) (ys := q :: C) |>.mp s1.2.2
    have mid : chn (fun u v => cross h u v = true → 0 ≤ dot g (cut h u v)) p (B ++ [q]) := chn_app.mpr ⟨s2.1, s2.2.1, trivial⟩
    obtain ⟨v, hv, gv⟩ := arc mid (fun v hv => hz v (by simp [hv])) hp x1 gp gq
    have el : l = lastO q C := by
      have h2 : (A ++ p :: (B ++ q :: C)).getLast? = some (lastO q C) := by
        rcases List.eq_nil_or_concat C with rfl | ⟨C, c, rfl⟩
        · rw [show A ++ p :: (B ++ [q]) = (A ++ p :: B) ++ [q] by simp, List.getLast?_concat]
          rfl
        · rw [List.concat_eq_append, lastO_snoc, show A ++ p :: (B ++ q :: (C ++ [c])) = (A ++ p :: (B ++ q :: C)) ++ [c] by simp, List.getLast?_concat]
      rw [hl] at h2
      exact Option.some.inj h2
    have out : chn (fun u v => cross h u v = true → 0 ≤ dot g (cut h u v)) q ((C ++ A) ++ [p]) := by
      rw [List.append_assoc]
      refine chn_app.mpr ⟨s2.2.2, ?_⟩
      rw [← el]
      exact chn_app.mpr ⟨s1.1, s1.2.1, trivial⟩
    obtain ⟨w, hw, gw⟩ := arc out (fun v hv => hz v (by rcases List.mem_append.mp hv with hv | hv <;> simp [hv])) hq x2 gq gp
    have tp : sg g p = true := decide_eq_true gp
    have tq : sg g q = true := decide_eq_true gq
    have fv : [false].Sublist (B.map (sg g)) := List.singleton_sublist.mpr (List.mem_map.mpr ⟨v, hv, decide_eq_false (by omega)⟩)
    rcases List.mem_append.mp hw with hw | hw
    · have fw : [false].Sublist (C.map (sg g)) := List.singleton_sublist.mpr (List.mem_map.mpr ⟨w, hw, decide_eq_false (by omega)⟩)
      refine na g ⟨true, ?_⟩
      rw [List.map_append, List.map_cons, List.map_append, List.map_cons, tp, tq]
      exact ((fv.append (fw.cons_cons true)).cons_cons true).trans (List.sublist_append_right _ _)
    · have fw : [false].Sublist (A.map (sg g)) := List.singleton_sublist.mpr (List.mem_map.mpr ⟨w, hw, decide_eq_false (by omega)⟩)
      refine na g ⟨false, ?_⟩
      rw [List.map_append, List.map_cons, List.map_append, List.map_cons, tp, tq]
      exact fw.append ((fv.append ((List.nil_sublist (C.map (sg g))).cons_cons true)).cons_cons true)
  have xij : cross h i j = true := by unfold cross; rw [decide_eq_true pi, decide_eq_true pj]; rfl
  have xji : cross h j i = true := by unfold cross; rw [decide_eq_true pi, decide_eq_true pj]; simp
  obtain ⟨A, R, rfl⟩ := List.append_of_mem hi
  rcases List.mem_append.mp hj with hjA | hjR
  · obtain ⟨A1, A2, rfl⟩ := List.append_of_mem hjA
    exact key (p := j) (q := i) (A := A1) (B := A2) (C := R) (by simp) (by omega) (by omega) xji xij gj gi
  · rcases List.mem_cons.mp hjR with e | hjR
    · rw [e] at pj
      omega
    · obtain ⟨B, C, rfl⟩ := List.append_of_mem hjR
      exact key (p := i) (q := j) (A := A) (B := B) (C := C) rfl (by omega) (by omega) xij xji gi gj
/-- what is not negative on the kept ones and cuts, is not negative on what is left -/
theorem gen {h : A3} {U : List A3} {K : A3 → Prop} (na : ∀ f, ¬ Alt (U.map (sg f))) (hg : ∀ Φ, (∀ u ∈ U, 0 ≤ dot Φ u) → ∀ w, K w → 0 ≤ dot Φ w) : ∀ Φ, (∀ u ∈ clip h U, 0 ≤ dot Φ u) → ∀ w, K w ∧ dot h w ≤ 0 → 0 ≤ dot Φ w := by
  intro Φ hΦ w ⟨hK, hw⟩
  have kept : ∀ u ∈ U, dot h u ≤ 0 → 0 ≤ dot Φ u := by
    unfold clip at hΦ
    cases hl : U.getLast? with
    | none => intro u hu; rw [List.getLast?_eq_none_iff.mp hl] at hu; cases hu
    | some l =>
      rw [hl] at hΦ
      exact (clipF_all hΦ).2
  have k := (FM.out (β := fun r : Option A3 => match r with | none => 1 | some u => dot h u) (L := fun r => match r with | none => 0 | some u => dot Φ u) (s := fun _ => false) (R := none :: U.map some)).mpr ⟨fun r hr e => ?_, fun i hi j hj bi bj => ?_⟩
  · obtain ⟨ρ, m, hm, k⟩ := k
    have k0 := (k none List.mem_cons_self).1
    have kU : ∀ u ∈ U, 0 ≤ dot (mix ρ m h Φ) u := fun u hu => by
      rw [mix_dot]
      have := (k (some u) (List.mem_cons_of_mem _ (List.mem_map.mpr ⟨u, hu, rfl⟩))).1
      dsimp only at this
      rw [Int.mul_comm ρ]
      exact this
    have kw := hg _ kU w hK
    rw [mix_dot] at kw
    dsimp only at k0
    have h1 := Int.mul_nonpos_of_nonneg_of_nonpos (show 0 ≤ ρ by omega) hw
    exact Int.nonneg_of_mul_nonneg_right (show 0 ≤ m * dot Φ w by omega) hm
  · rcases List.mem_cons.mp hr with rfl | hr
    · cases e
    · obtain ⟨u, hu, rfl⟩ := List.mem_map.mp hr
      exact ⟨kept u hu (by have e : dot h u = 0 := e; omega), fun e => nomatch e⟩
  · refine ⟨?_, fun e => nomatch e⟩
    rcases List.mem_cons.mp hj with rfl | hj
    · have bj : (1 : Int) < 0 := bj
      omega
    · obtain ⟨v, hv, rfl⟩ := List.mem_map.mp hj
      have bj : dot h v < 0 := bj
      rcases List.mem_cons.mp hi with rfl | hi
      · show 0 ≤ 0 * (0 - dot h v) + dot Φ v * 1
        have := kept v hv (by omega)
        omega
      · obtain ⟨u, hu, rfl⟩ := List.mem_map.mp hi
        exact pair na hΦ hu hv bi bj
end Wt

set_option Elab.async false
set_option linter.all false
set_option maxRecDepth 100000
set_option maxHeartbeats 1000000
/-! plain: a triangle over a rectangle -/
namespace Wt
def e0 : A3 := (1, 0, 0)
def e1 : A3 := (0, 1, 0)
def e2 : A3 := (0, 0, 1)
def E3 : List A3 := [e0, e1, e2]
theorem dot_e (f : A3) : dot f e0 = f.1 ∧ dot f e1 = f.2.1 ∧ dot f e2 = f.2.2 := by
  unfold dot e0 e1 e2
  dsimp only
  omega
theorem dot_sum (f w : A3) : dot f w = w.1 * dot f e0 + w.2.1 * dot f e1 + w.2.2 * dot f e2 := by
  obtain ⟨a, b, c⟩ := dot_e f
  rw [a, b, c]
  unfold dot
  grind
theorem dot_one (w : A3) : dot one w = w.1 + w.2.1 + w.2.2 := by
  unfold dot one
  dsimp only
  omega
theorem nn_e {u : A3} (h : u ∈ E3) : nn u ∧ 0 < dot one u := by
  unfold E3 at h
  simp only [List.mem_cons, List.not_mem_nil, or_false] at h
  rcases h with rfl | rfl | rfl <;> exact ⟨by unfold nn; decide, by decide⟩
theorem gen0 : ∀ Φ, (∀ u ∈ E3, 0 ≤ dot Φ u) → ∀ w, (nn w ∧ 0 < dot one w) → 0 ≤ dot Φ w := by
  intro Φ h w ⟨hw, _⟩
  rw [dot_sum]
  have a := Int.mul_nonneg hw.1 (h e0 (by unfold E3; simp))
  have b := Int.mul_nonneg hw.2.1 (h e1 (by unfold E3; simp))
  have c := Int.mul_nonneg hw.2.2 (h e2 (by unfold E3; simp))
  omega
theorem noalt0 (f : A3) : ¬ Alt (E3.map (sg f)) := fun ⟨b, h⟩ => by
  have := h.length_le
  simp [E3] at this
/-- s times how far the coordinate c lies beyond at -/
def lin (s : Int) (c : A3) (at' : Int) : A3 := mix s (-(s * at')) c one
theorem dot_lin (s : Int) (c : A3) (t : Int) (w : A3) : dot (lin s c t) w = s * (dot c w - t * dot one w) := by
  unfold lin
  rw [mix_dot]
  grind
structure Rc where
  xs : A3
  ys : A3
  zs : A3
  x0 : Int
  z0 : Int
  x1 : Int
  z1 : Int
def Rc.hs (T : Rc) : List A3 := [lin (-1) T.xs T.x0, lin 1 T.xs T.x1, lin (-1) T.zs T.z0, lin 1 T.zs T.z1]
def Feas (T : Rc) (w : A3) : Prop := (nn w ∧ 0 < dot one w) ∧ ∀ h ∈ T.hs, dot h w ≤ 0
theorem feas_iff {T : Rc} {w : A3} : Feas T w ↔ (nn w ∧ 0 < dot one w) ∧ (T.x0 * dot one w ≤ dot T.xs w ∧ dot T.xs w ≤ T.x1 * dot one w) ∧ T.z0 * dot one w ≤ dot T.zs w ∧ dot T.zs w ≤ T.z1 * dot one w := by
  unfold Feas Rc.hs
  simp only [List.mem_cons, List.not_mem_nil, or_false, forall_eq_or_imp, forall_eq, dot_lin]
  refine and_congr Iff.rfl ?_
  constructor
  · rintro ⟨a, b, c, d⟩
    omega
  · rintro ⟨⟨a, b⟩, c, d⟩
    omega
/-! ### the law's polygon -/
def poly (T : Rc) : List A3 := clip (lin 1 T.zs T.z1) (clip (lin (-1) T.zs T.z0) (clip (lin 1 T.xs T.x1) (clip (lin (-1) T.xs T.x0) E3)))
theorem clip_mem {h : A3} {P : A3 → Prop} {U : List A3} (hU : ∀ u ∈ U, P u) (hc : ∀ u v, P u → P v → cross h u v = true → P (cut h u v)) : ∀ r ∈ clip h U, P r ∧ dot h r ≤ 0 := by
  unfold clip
  cases hl : U.getLast? with
  | none => intro r hr; cases hr
  | some l => exact clipF_mem (hU l (List.mem_of_getLast? hl)) hU hc
theorem keep {P : List A3} {h : A3} : ∀ u v : A3, ((nn u ∧ 0 < dot one u) ∧ ∀ g ∈ P, dot g u ≤ 0) → ((nn v ∧ 0 < dot one v) ∧ ∀ g ∈ P, dot g v ≤ 0) → cross h u v = true → ((nn (cut h u v) ∧ 0 < dot one (cut h u v)) ∧ ∀ g ∈ P, dot g (cut h u v) ≤ 0) := by
  intro u v ⟨⟨a, b⟩, c⟩ ⟨⟨a2, b2⟩, c2⟩ x
  obtain ⟨p, q⟩ := cross_pos x
  refine ⟨⟨a.mix a2 (by omega) (by omega), ?_⟩, fun g hg => ?_⟩
  · unfold cut
    rw [dot_mix]
    have := Int.mul_pos p b
    have := Int.mul_pos q b2
    omega
  · unfold cut
    rw [dot_mix]
    have := Int.mul_nonpos_of_nonneg_of_nonpos (show 0 ≤ absI (dot h v) by omega) (c g hg)
    have := Int.mul_nonpos_of_nonneg_of_nonpos (show 0 ≤ absI (dot h u) by omega) (c2 g hg)
    omega
theorem poly_feas {T : Rc} {u : A3} (h : u ∈ poly T) : Feas T u := by
  have s0 : ∀ r ∈ E3, (nn r ∧ 0 < dot one r) ∧ ∀ g ∈ ([] : List A3), dot g r ≤ 0 := fun r hr => ⟨nn_e hr, fun _ h => nomatch h⟩
  have ext : ∀ {P : List A3} {k : A3} {U : List A3}, (∀ r ∈ U, ((nn r ∧ 0 < dot one r) ∧ ∀ g ∈ P, dot g r ≤ 0) ∧ dot k r ≤ 0) → ∀ r ∈ U, (nn r ∧ 0 < dot one r) ∧ ∀ g ∈ P ++ [k], dot g r ≤ 0 := fun hU r hr => by
    obtain ⟨⟨a, b⟩, c⟩ := hU r hr
    refine ⟨a, fun g hg => ?_⟩
    rcases List.mem_append.mp hg with hg | hg
    · exact b g hg
    · rw [List.mem_singleton.mp hg]; exact c
  have s1 := ext (clip_mem (h := lin (-1) T.xs T.x0) s0 keep)
  have s2 := ext (clip_mem (h := lin 1 T.xs T.x1) s1 keep)
  have s3 := ext (clip_mem (h := lin (-1) T.zs T.z0) s2 keep)
  have s4 := ext (clip_mem (h := lin 1 T.zs T.z1) s3 keep)
  exact s4 u h
theorem poly_gen {T : Rc} {Φ : A3} (h : ∀ u ∈ poly T, 0 ≤ dot Φ u) {w : A3} (hw : Feas T w) : 0 ≤ dot Φ w := by
  have n1 := fun f => clip_noalt (h := lin (-1) T.xs T.x0) (noalt0 f)
  have n2 := fun f => clip_noalt (h := lin 1 T.xs T.x1) (n1 f)
  have n3 := fun f => clip_noalt (h := lin (-1) T.zs T.z0) (n2 f)
  have g1 := gen (h := lin (-1) T.xs T.x0) noalt0 gen0
  have g2 := gen (h := lin 1 T.xs T.x1) n1 g1
  have g3 := gen (h := lin (-1) T.zs T.z0) n2 g2
  have g4 := gen (h := lin 1 T.zs T.z1) n3 g3
  obtain ⟨a, b⟩ := hw
  unfold Rc.hs at b
  simp only [List.mem_cons, List.not_mem_nil, or_false, forall_eq_or_imp, forall_eq] at b
  exact g4 Φ h w ⟨⟨⟨⟨a, b.1⟩, b.2.1⟩, b.2.2.1⟩, b.2.2.2⟩
/-! ### the least height -/
def Min (T : Rc) (y : A3) (n d : Int) : Prop := 0 < d ∧ (∃ u, Feas T u ∧ n * dot one u = d * dot y u) ∧ ∀ w, Feas T w → n * dot one w ≤ d * dot y w
theorem Min.uniq {T : Rc} {y : A3} {n d m c : Int} (h : Min T y n d) (g : Min T y m c) : n * c = m * d := by
  obtain ⟨hd, ⟨u, fu, eu⟩, hl⟩ := h
  obtain ⟨gd, ⟨v, fv, ev⟩, gl⟩ := g
  have h1 := hl v fv
  have g1 := gl u fu
  have pu := fu.1.2
  have pv := fv.1.2
  generalize dot one u = U at *
  generalize dot one v = V at *
  generalize dot y u = a at *
  generalize dot y v = b at *
  have k1 : n * c * V ≤ m * d * V := by
    have := Int.mul_le_mul_of_nonneg_left h1 (show 0 ≤ c by omega)
    calc n * c * V = c * (n * V) := by grind
      _ ≤ c * (d * b) := this
      _ = d * (c * b) := by grind
      _ = d * (m * V) := by rw [ev]
      _ = m * d * V := by grind
  have k2 : m * d * U ≤ n * c * U := by
    have := Int.mul_le_mul_of_nonneg_left g1 (show 0 ≤ d by omega)
    calc m * d * U = d * (m * U) := by grind
      _ ≤ d * (c * a) := this
      _ = c * (d * a) := by grind
      _ = c * (n * U) := by rw [eu]
      _ = n * c * U := by grind
  have a1 := Int.le_of_mul_le_mul_right k1 pv
  have a2 := Int.le_of_mul_le_mul_right k2 pu
  omega
/-! ### the program's points -/
theorem low_vertex {y w : A3} (hw : nn w) (pw : 0 < dot one w) : ∃ e ∈ E3, dot y e * dot one w ≤ dot y w * dot one e := by
  apply Classical.byContradiction
  intro hn
  have k : ∀ e ∈ E3, 0 < dot y e * dot one w - dot y w * dot one e := fun e he => by
    have : ¬ dot y e * dot one w ≤ dot y w * dot one e := fun h => hn ⟨e, he, h⟩
    omega
  have k0 := k e0 (by unfold E3; simp)
  have k1 := k e1 (by unfold E3; simp)
  have k2 := k e2 (by unfold E3; simp)
  have s := dot_sum y w
  have s1 := dot_sum one w
  have o0 : dot one e0 = 1 := rfl
  have o1 : dot one e1 = 1 := rfl
  have o2 : dot one e2 = 1 := rfl
  rw [o0, o1, o2] at s1
  rw [o0] at k0
  rw [o1] at k1
  rw [o2] at k2
  have z : w.1 * (dot y e0 * dot one w - dot y w * 1) + w.2.1 * (dot y e1 * dot one w - dot y w * 1) + w.2.2 * (dot y e2 * dot one w - dot y w * 1) = 0 := by
    generalize dot one w = W at *
    generalize dot y w = Y at *
    generalize dot y e0 = a at *
    generalize dot y e1 = b at *
    generalize dot y e2 = c at *
    subst s s1
    grind
  have a0 := Int.mul_nonneg hw.1 (show 0 ≤ dot y e0 * dot one w - dot y w * 1 by omega)
  have a1 := Int.mul_nonneg hw.2.1 (show 0 ≤ dot y e1 * dot one w - dot y w * 1 by omega)
  have a2 := Int.mul_nonneg hw.2.2 (show 0 ≤ dot y e2 * dot one w - dot y w * 1 by omega)
  obtain ⟨h0, h1, h2⟩ := hw
  rcases (by omega : 0 < w.1 ∨ 0 < w.2.1 ∨ 0 < w.2.2) with c | c | c
  · have := Int.mul_pos c k0; omega
  · have := Int.mul_pos c k1; omega
  · have := Int.mul_pos c k2; omega
/-- toward a point that is not higher, till a side is met -/
theorem move {T : Rc} {y w e : A3} (hw : Feas T w) (he : nn e ∧ 0 < dot one e) (hi : ¬ Feas T e) (hy : dot y e * dot one w ≤ dot y w * dot one e) : ∃ h ∈ T.hs, ∃ v, Feas T v ∧ dot h v = 0 ∧ 0 < dot h e ∧ dot y v * dot one w ≤ dot y w * dot one v ∧ ∀ g, dot g w = 0 → dot g e = 0 → dot g v = 0 := by
  have ne : T.hs.filter (fun h => decide (0 < dot h e)) ≠ [] := fun c => hi ⟨he, fun h hh => by
    apply Classical.byContradiction
    intro k
    have : h ∈ T.hs.filter (fun h => decide (0 < dot h e)) := List.mem_filter.mpr ⟨hh, decide_eq_true (by omega)⟩
    rw [c] at this
    cases this⟩
  have mem : ∀ h, h ∈ T.hs.filter (fun h => decide (0 < dot h e)) ↔ h ∈ T.hs ∧ 0 < dot h e := fun h => by rw [List.mem_filter, decide_eq_true_eq]
  obtain ⟨h, hh, hl⟩ := FM.least (β := fun h => dot h e) (L := fun h => 0 - dot h w) (fun r hr => ((mem r).mp hr).2) ne
  obtain ⟨hh, hp⟩ := (mem h).mp hh
  have hw0 := hw.2 h hh
  have b0 : 0 ≤ 0 - dot h w := by omega
  refine ⟨h, hh, mix (dot h e) (0 - dot h w) w e, ⟨⟨hw.1.1.mix he.1 (by omega) b0, ?_⟩, fun g hg => ?_⟩, ?_, hp, ?_, fun g g1 g2 => ?_⟩
  · rw [dot_mix]
    have := Int.mul_pos hp hw.1.2
    have := Int.mul_nonneg b0 (show 0 ≤ dot one e by omega)
    omega
  · rw [dot_mix]
    have hg0 := hw.2 g hg
    by_cases c : 0 < dot g e
    · have := hl g ((mem g).mpr ⟨hg, c⟩)
      have e2 : (0 - dot g w) * dot h e = -(dot h e * dot g w) := by grind
      rw [e2] at this
      omega
    · have := Int.mul_nonpos_of_nonneg_of_nonpos (show 0 ≤ dot h e by omega) hg0
      have := Int.mul_nonpos_of_nonneg_of_nonpos b0 (show dot g e ≤ 0 by omega)
      omega
  · rw [dot_mix]
    grind
  · rw [dot_mix, dot_mix]
    have := Int.mul_le_mul_of_nonneg_left hy b0
    generalize dot h e = a at *
    generalize 0 - dot h w = b at *
    have e1 : (a * dot y w + b * dot y e) * dot one w = a * (dot y w * dot one w) + b * (dot y e * dot one w) := by grind
    have e2 : dot y w * (a * dot one w + b * dot one e) = a * (dot y w * dot one w) + b * (dot y w * dot one e) := by grind
    rw [e1, e2]
    omega
  · rw [dot_mix, g1, g2, Int.mul_zero, Int.mul_zero]
    rfl
/-- on a line through the triangle: a corner, or the cut of a side, is not higher -/
theorem low_cut {h y w : A3} (hw : nn w) (hz : dot h w = 0) (pw : 0 < dot one w) : ∃ g, ((g ∈ E3 ∧ dot h g = 0) ∨ ∃ u ∈ E3, ∃ v ∈ E3, 0 < dot h u ∧ dot h v < 0 ∧ g = mix (0 - dot h v) (dot h u) u v) ∧ dot y g * dot one w ≤ dot y w * dot one g := by
  apply Classical.byContradiction
  intro hn
  let Φ := mix (dot one w) (-(dot y w)) y one
  have eΦ : ∀ g, dot Φ g = dot y g * dot one w - dot y w * dot one g := fun g => by
    show dot (mix _ _ y one) g = _
    rw [mix_dot]
    grind
  have k : ∀ g, ((g ∈ E3 ∧ dot h g = 0) ∨ ∃ u ∈ E3, ∃ v ∈ E3, 0 < dot h u ∧ dot h v < 0 ∧ g = mix (0 - dot h v) (dot h u) u v) → 0 < dot Φ g := fun g hg => by
    rw [eΦ]
    have : ¬ dot y g * dot one w ≤ dot y w * dot one g := fun q => hn ⟨g, hg, q⟩
    omega
  have key := (FM.out (β := fun u => dot h u) (L := fun u => dot Φ u) (s := fun _ => true) (R := E3)).mpr ⟨fun r hr e => ?_, fun i hi j hj bi bj => ?_⟩
  · obtain ⟨V, m, hm, q⟩ := key
    have q0 := (q e0 (by unfold E3; simp)).2 rfl
    have q1 := (q e1 (by unfold E3; simp)).2 rfl
    have q2 := (q e2 (by unfold E3; simp)).2 rfl
    have z : dot Φ w = 0 := by rw [eΦ]; grind
    have s : w.1 * (dot h e0 * V + m * dot Φ e0) + w.2.1 * (dot h e1 * V + m * dot Φ e1) + w.2.2 * (dot h e2 * V + m * dot Φ e2) = 0 := by
      have a := dot_sum h w
      have b := dot_sum Φ w
      rw [hz] at a
      rw [z] at b
      calc _ = V * (w.1 * dot h e0 + w.2.1 * dot h e1 + w.2.2 * dot h e2) + m * (w.1 * dot Φ e0 + w.2.1 * dot Φ e1 + w.2.2 * dot Φ e2) := by grind
        _ = 0 := by rw [← a, ← b]; grind
    have a0 := Int.mul_nonneg hw.1 (show 0 ≤ dot h e0 * V + m * dot Φ e0 by omega)
    have a1 := Int.mul_nonneg hw.2.1 (show 0 ≤ dot h e1 * V + m * dot Φ e1 by omega)
    have a2 := Int.mul_nonneg hw.2.2 (show 0 ≤ dot h e2 * V + m * dot Φ e2 by omega)
    rw [dot_one] at pw
    obtain ⟨h0, h1, h2⟩ := hw
    rcases (by omega : 0 < w.1 ∨ 0 < w.2.1 ∨ 0 < w.2.2) with c | c | c
    · have := Int.mul_pos c q0; omega
    · have := Int.mul_pos c q1; omega
    · have := Int.mul_pos c q2; omega
  · have := k r (.inl ⟨hr, e⟩)
    exact ⟨by omega, fun _ => this⟩
  · have := k _ (.inr ⟨i, hi, j, hj, bi, bj, rfl⟩)
    rw [dot_mix] at this
    have e : dot Φ i * (0 - dot h j) + dot Φ j * dot h i = (0 - dot h j) * dot Φ i + dot h i * dot Φ j := by grind
    exact ⟨by omega, fun _ => by omega⟩
def det (f g k : A3) : Int := f.1 * (g.2.1 * k.2.2 - g.2.2 * k.2.1) - f.2.1 * (g.1 * k.2.2 - g.2.2 * k.1) + f.2.2 * (g.1 * k.2.1 - g.2.1 * k.1)
theorem det_mul (f g k u v w : A3) : det f g k * det u v w = dot f u * (dot g v * dot k w - dot g w * dot k v) - dot f v * (dot g u * dot k w - dot g w * dot k u) + dot f w * (dot g u * dot k v - dot g v * dot k u) := by
  unfold det dot
  grind
theorem det_lin (s t a b : Int) (f g : A3) : det (lin s f a) (lin t g b) one = s * t * det f g one := by
  unfold det lin mix one
  dsimp only
  grind
theorem det_swap (f g k : A3) : det g f k = -det f g k := by
  unfold det
  grind
inductive Cand (T : Rc) : A3 → Prop
  | v {e : A3} : e ∈ E3 → Cand T e
  | x {u v : A3} {s at' : Int} : (s = -1 ∧ at' = T.x0 ∨ s = 1 ∧ at' = T.x1) → u ∈ E3 → v ∈ E3 → 0 < dot (lin s T.xs at') u → dot (lin s T.xs at') v < 0 → Cand T (mix (0 - dot (lin s T.xs at') v) (dot (lin s T.xs at') u) u v)
  | z {u v : A3} {s at' : Int} : (s = -1 ∧ at' = T.z0 ∨ s = 1 ∧ at' = T.z1) → u ∈ E3 → v ∈ E3 → 0 < dot (lin s T.zs at') u → dot (lin s T.zs at') v < 0 → Cand T (mix (0 - dot (lin s T.zs at') v) (dot (lin s T.zs at') u) u v)
  | c {w : A3} {x z : Int} : (x = T.x0 ∨ x = T.x1) → (z = T.z0 ∨ z = T.z1) → dot T.xs w = x * dot one w → dot T.zs w = z * dot one w → det T.xs T.zs one ≠ 0 → Cand T w
theorem hs_mem {T : Rc} {h : A3} (hh : h ∈ T.hs) : (∃ s at', (s = -1 ∧ at' = T.x0 ∨ s = 1 ∧ at' = T.x1) ∧ h = lin s T.xs at') ∨ ∃ s at', (s = -1 ∧ at' = T.z0 ∨ s = 1 ∧ at' = T.z1) ∧ h = lin s T.zs at' := by
  unfold Rc.hs at hh
  simp only [List.mem_cons, List.not_mem_nil, or_false] at hh
  rcases hh with rfl | rfl | rfl | rfl
  · exact .inl ⟨_, _, .inl ⟨rfl, rfl⟩, rfl⟩
  · exact .inl ⟨_, _, .inr ⟨rfl, rfl⟩, rfl⟩
  · exact .inr ⟨_, _, .inl ⟨rfl, rfl⟩, rfl⟩
  · exact .inr ⟨_, _, .inr ⟨rfl, rfl⟩, rfl⟩
theorem lin_zero {s a : Int} {c w : A3} (hs : s = -1 ∨ s = 1) (h : dot (lin s c a) w = 0) : dot c w = a * dot one w := by
  rw [dot_lin] at h
  rcases hs with rfl | rfl <;> omega
theorem three {T : Rc} (rx : T.x0 < T.x1) (rz : T.z0 < T.z1) (y : A3) {w : A3} (hw : Feas T w) : ∃ u, Feas T u ∧ Cand T u ∧ dot y u * dot one w ≤ dot y w * dot one u := by
  have trans : ∀ {a b c : A3}, 0 < dot one b → 0 < dot one a → 0 < dot one c → dot y a * dot one b ≤ dot y b * dot one a → dot y b * dot one c ≤ dot y c * dot one b → dot y a * dot one c ≤ dot y c * dot one a := by
    intro a b c pb pa pc h1 h2
    generalize dot one a = A at *
    generalize dot one b = B at *
    generalize dot one c = C at *
    generalize dot y a = p at *
    generalize dot y b = q at *
    generalize dot y c = r at *
    have k1 := Int.mul_le_mul_of_nonneg_left h1 (show 0 ≤ C by omega)
    have k2 := Int.mul_le_mul_of_nonneg_left h2 (show 0 ≤ A by omega)
    have : B * (p * C) ≤ B * (r * A) := by
      calc B * (p * C) = C * (p * B) := by grind
        _ ≤ C * (q * A) := k1
        _ = A * (q * C) := by grind
        _ ≤ A * (r * B) := k2
        _ = B * (r * A) := by grind
    exact Int.le_of_mul_le_mul_left this pb
  obtain ⟨e, he, hy⟩ := low_vertex (y := y) hw.1.1 hw.1.2
  by_cases fe : Feas T e
  · exact ⟨e, fe, .v he, hy⟩
  obtain ⟨h, hh, v, fv, hv, hpe, hyv, _⟩ := move hw (nn_e he) fe hy
  obtain ⟨g, hg, hyg⟩ := low_cut (y := y) fv.1.1 hv fv.1.2
  have hg0 : dot h g = 0 := by
    rcases hg with ⟨_, q⟩ | ⟨a, _, b, _, pa, pb, rfl⟩
    · exact q
    · rw [dot_mix]; grind
  have hgn : nn g ∧ 0 < dot one g := by
    rcases hg with ⟨q, _⟩ | ⟨a, ha, b, hb, pa, pb, rfl⟩
    · exact nn_e q
    · refine ⟨(nn_e ha).1.mix (nn_e hb).1 (by omega) (by omega), ?_⟩
      rw [dot_mix]
      have := Int.mul_pos (show 0 < 0 - dot h b by omega) (nn_e ha).2
      have := Int.mul_pos pa (nn_e hb).2
      omega
  by_cases fg : Feas T g
  · refine ⟨g, fg, ?_, trans fv.1.2 hgn.2 hw.1.2 hyg hyv⟩
    rcases hg with ⟨q, _⟩ | ⟨a, ha, b, hb, pa, pb, rfl⟩
    · exact .v q
    · rcases hs_mem hh with ⟨s, t, hst, rfl⟩ | ⟨s, t, hst, rfl⟩
      · exact .x hst ha hb pa pb
      · exact .z hst ha hb pa pb
  obtain ⟨k, hk, u, fu, hu, hpg, hyu, hz⟩ := move fv hgn fg hyg
  have hhu := hz h hv hg0
  refine ⟨u, fu, ?_, trans fv.1.2 fu.1.2 hw.1.2 hyu hyv⟩
  have dd := det_mul h k one u g e
  rw [hhu, hg0, hu] at dd
  have pos : 0 < dot h e * (dot k g * dot one u) := Int.mul_pos hpe (Int.mul_pos hpg fu.1.2)
  have dn : det h k one ≠ 0 := fun c => by
    rw [c] at dd
    have : dot h e * (dot k g * dot one u) = 0 := by grind
    omega
  have pu := fu.1.2
  rcases hs_mem hh with ⟨s, t, hst, rfl⟩ | ⟨s, t, hst, rfl⟩ <;> rcases hs_mem hk with ⟨s2, t2, hst2, rfl⟩ | ⟨s2, t2, hst2, rfl⟩
  · exfalso
    have q1 := lin_zero (by rcases hst with h | h <;> simp [h.1]) hhu
    have q2 := lin_zero (by rcases hst2 with h | h <;> simp [h.1]) hu
    have q3 : t = t2 := by
      have : t * dot one u = t2 * dot one u := q1.symm.trans q2
      exact Int.eq_of_mul_eq_mul_right (by omega) this
    have : s = s2 := by
      rcases hst with h | h <;> rcases hst2 with h2 | h2 <;> omega
    subst q3 this
    omega
  · rw [det_lin] at dn
    refine .c (x := t) (z := t2) (by rcases hst with h | h <;> simp [h.2]) (by rcases hst2 with h | h <;> simp [h.2]) (lin_zero (by rcases hst with h | h <;> simp [h.1]) hhu) (lin_zero (by rcases hst2 with h | h <;> simp [h.1]) hu) fun c => dn (by rw [c, Int.mul_zero])
  · rw [det_lin, det_swap] at dn
    refine .c (x := t2) (z := t) (by rcases hst2 with h | h <;> simp [h.2]) (by rcases hst with h | h <;> simp [h.2]) (lin_zero (by rcases hst2 with h | h <;> simp [h.1]) hu) (lin_zero (by rcases hst with h | h <;> simp [h.1]) hhu) fun c => dn (by rw [c, Int.neg_zero, Int.mul_zero])
  · exfalso
    have q1 := lin_zero (by rcases hst with h | h <;> simp [h.1]) hhu
    have q2 := lin_zero (by rcases hst2 with h | h <;> simp [h.1]) hu
    have q3 : t = t2 := by
      have : t * dot one u = t2 * dot one u := q1.symm.trans q2
      exact Int.eq_of_mul_eq_mul_right (by omega) this
    have : s = s2 := by
      rcases hst with h | h <;> rcases hst2 with h2 | h2 <;> omega
    subst q3 this
    omega
end Wt

set_option Elab.async false
set_option linter.all false
set_option maxRecDepth 100000
set_option maxHeartbeats 1000000
/-! the law's polygon, walked -/
namespace W
open PySem L2 Mi Wt
abbrev P3 := Int × Int × Int
def rc (p0 p1 p2 : P3) (x0 z0 x1 z1 : Int) : Rc := ⟨(p0.1, p1.1, p2.1), (p0.2.1, p1.2.1, p2.2.1), (p0.2.2, p1.2.2, p2.2.2), x0, z0, x1, z1⟩
def pt (T : Rc) (u : Wt.A3) : List Int := [dot T.xs u, dot T.ys u, dot T.zs u, dot one u]
def PB (n : Nat) (T : Rc) (u : Wt.A3) : Prop := Smn n (dot T.xs u) ∧ Smn n (dot T.ys u) ∧ Smn n (dot T.zs u) ∧ Smn n (dot one u)
theorem PB.mono {n m : Nat} {T : Rc} {u : Wt.A3} (h : PB n T u) (k : n ≤ m) : PB m T u := ⟨h.1.mono k, h.2.1.mono k, h.2.2.1.mono k, h.2.2.2.mono k⟩
structure Ax (T : Rc) (axis : Int) (c : Wt.A3) : Prop where
  at_ : ∀ u, Pl.at_ (pt T u) axis = some (dot c u)
  b : ∀ {n u}, PB n T u → Smn n (dot c u)
theorem ax0 (T : Rc) : Ax T 0 T.xs := ⟨fun _ => rfl, fun h => h.1⟩
theorem ax2 (T : Rc) : Ax T 2 T.zs := ⟨fun _ => rfl, fun h => h.2.2.1⟩
def Sgn (s : Int) : Prop := s = -1 ∨ s = 1
theorem Sgn.s {s : Int} (h : Sgn s) : Smn 2 s := by rcases h with rfl | rfl <;> (unfold Smn; decide)
theorem lin_b {T : Rc} {axis s t : Int} {c : Wt.A3} (A : Ax T axis c) (hs : Sgn s) (ht : Smn 30 t) {n : Nat} {u : Wt.A3} (hu : PB n T u) : Smn (n + 33) (dot (lin s c t) u) := by
  rw [dot_lin]
  have h1 := Smn.sub (A.b hu) (Smn.mul ht hu.2.2.2)
  have h2 := Smn.mul hs.s (h1.mono (show max n (30 + n) + 1 ≤ n + 31 by omega))
  exact h2.mono (by omega)
theorem beyond_t {T : Rc} {axis s t : Int} {c : Wt.A3} (A : Ax T axis c) (hs : Sgn s) (ht : Smn 30 t) {n : Nat} (hn : n ≤ 2000) {u : Wt.A3} (hu : PB n T u) : p_law_beyond (pt T u) axis s t = some (dot (lin s c t) u) := by
  unfold p_law_beyond
  have h1 := Smn.sub (A.b hu) (Smn.mul ht hu.2.2.2)
  rw [A.at_, at_t (xs := pt T u) (i := 3) (n := 3) (x := dot one u) rfl rfl]
  simp only [Option.bind_some]
  rw [mul_t ht hu.2.2.2 (by unfold bigN; omega) (by unfold bigN; omega)]
  simp only [Option.bind_some]
  rw [mul_t hs.s h1 (by unfold bigN; omega) (by unfold bigN; omega), dot_lin]
  rfl
theorem abs_b {n : Nat} {i : Int} (h : Smn n i) : Smn n (absI i) := by
  unfold absI
  split
  · exact h.neg
  · exact h
theorem rng4O : Pl.rngO 0 (4 : Int) = some [0, 1, 2, 3] := by
  unfold Pl.rngO
  rw [if_pos (by decide)]
  rfl
theorem comp4 {β γ : Type} {f : β → Option γ} {a b c d : β} {x y z w : γ} (h0 : f a = some x) (h1 : f b = some y) (h2 : f c = some z) (h3 : f d = some w) : Pl.comp (fun _ => some true) f [a, b, c, d] = some [x, y, z, w] := by
  unfold Pl.comp
  rw [if_pos (show [a, b, c, d].length ≤ szl from (by decide : 4 ≤ szl))]
  simp [Pl.cmp, h0, h1, h2, h3]
theorem cut_b {T : Rc} {axis s t : Int} {c : Wt.A3} (A : Ax T axis c) (hs : Sgn s) (ht : Smn 30 t) {n : Nat} {u v : Wt.A3} (hu : PB n T u) (hv : PB n T v) : PB (2 * n + 40) T (cut (lin s c t) u v) := by
  have bu := abs_b (lin_b A hs ht hu)
  have bv := abs_b (lin_b A hs ht hv)
  have k : ∀ {i j : Int}, Smn n i → Smn n j → Smn (2 * n + 40) (absI (dot (lin s c t) v) * i + absI (dot (lin s c t) u) * j) := fun h1 h2 => by
    have := Smn.add (Smn.mul bv h1) (Smn.mul bu h2)
    rw [Nat.max_self] at this
    exact this.mono (by omega)
  unfold cut PB
  rw [dot_mix, dot_mix, dot_mix, dot_mix]
  exact ⟨k hu.1 hv.1, k hu.2.1 hv.2.1, k hu.2.2.1 hv.2.2.1, k hu.2.2.2 hv.2.2.2⟩
theorem cut_t {T : Rc} {axis s t : Int} {c : Wt.A3} (A : Ax T axis c) (hs : Sgn s) (ht : Smn 30 t) {n : Nat} (hn : n ≤ 2000) {u v : Wt.A3} (hu : PB n T u) (hv : PB n T v) : p_law_cut (pt T u) (pt T v) axis s t = some (pt T (cut (lin s c t) u v)) := by
  have bu := abs_b (lin_b A hs ht hu)
  have bv := abs_b (lin_b A hs ht hv)
  refine Tot.get ?_
  unfold p_law_cut
  refine Tot.of (beyond_t A hs ht hn hu) (Tot.nm ?_)
  refine Tot.of (beyond_t A hs ht hn hv) (Tot.nm ?_)
  rw [rng4O]
  refine Tot.nm ?_
  have cell : ∀ x i j, Pl.at_ (pt T u) x = some i → Pl.at_ (pt T v) x = some j → Smn n i → Smn n j → ((Pl.at_ (pt T u) x).bind fun t7 => (Pl.mul t7 (absI (dot (lin s c t) v))).bind fun t8 => (Pl.at_ (pt T v) x).bind fun t9 => (Pl.mul t9 (absI (dot (lin s c t) u))).bind fun t10 => some (t8 + t10)) = some (absI (dot (lin s c t) v) * i + absI (dot (lin s c t) u) * j) := by
    intro x i j h1 h2 b1 b2
    simp only [h1, h2, Option.bind_some, mul_t b1 bv (by unfold bigN; omega) (by unfold bigN; omega), mul_t b2 bu (by unfold bigN; omega) (by unfold bigN; omega)]
    rw [Int.mul_comm i, Int.mul_comm j]
  refine Tot.of (comp4 (cell 0 _ _ rfl rfl hu.1 hv.1) (cell 1 _ _ rfl rfl hu.2.1 hv.2.1) (cell 2 _ _ rfl rfl hu.2.2.1 hv.2.2.1) (cell 3 _ _ rfl rfl hu.2.2.2 hv.2.2.2)) ⟨_, rfl, ?_⟩
  unfold pt cut
  rw [dot_mix, dot_mix, dot_mix, dot_mix]
theorem step_len (h p c : Wt.A3) : (step h p c).length ≤ 2 := by
  unfold Wt.step
  split <;> split <;> simp
theorem clipF_len (h : Wt.A3) : ∀ (p : Wt.A3) (U : List Wt.A3), (clipF h p U).length ≤ 2 * U.length
  | p, [] => Nat.le_refl _
  | p, c :: cs => by
    have := clipF_len h c cs
    have := step_len h p c
    rw [clipF, List.length_append, List.length_cons]
    omega
theorem clip_len (h : Wt.A3) (U : List Wt.A3) : (clip h U).length ≤ 2 * U.length := by
  unfold clip
  split
  · simp
  · exact clipF_len _ _ _
theorem lastO_get {l : Wt.A3} : ∀ {xs : List Wt.A3}, xs ≠ [] → xs.getLast? = some (lastO l xs)
  | [], h => absurd rfl h
  | [x], _ => rfl
  | x :: y :: xs, _ => by
    rw [List.getLast?_cons_cons, lastO, lastO_get (l := x) (xs := y :: xs) (by simp)]
theorem clip_t {T : Rc} {axis s t : Int} {c : Wt.A3} (A : Ax T axis c) (hs : Sgn s) (ht : Smn 30 t) {n : Nat} (hn : n ≤ 2000) {U : List Wt.A3} (hU : ∀ u ∈ U, PB n T u) (hl : U.length ≤ 1000) : p_law_clip (U.map (pt T)) axis s t = some ((clip (lin s c t) U).map (pt T)) := by
  refine Tot.get ?_
  unfold p_law_clip
  rw [List.length_map]
  refine Tot.rngO ⟨by decide, by omega⟩ ?_
  rcases List.eq_nil_or_concat U with rfl | ⟨V, l, eV⟩
  · rw [show Pl.rng 0 (([] : List Wt.A3).length : Int) = [] by rfl]
    exact ⟨_, rfl, rfl⟩
  have hlast : U.getLast? = some l := by rw [eV, List.concat_eq_append, List.getLast?_concat]
  have atl : Pl.at_ (U.map (pt T)) (-1) = some (pt T l) := by rw [eV, List.concat_eq_append, List.map_append]; exact at_last
  refine Tot.forR (fun i r => r = (clipF (lin s c t) l (U.take i.toNat)).map (pt T)) (by omega) rfl ?_ ?_
  · rintro i r h0 h1 rfl
    obtain ⟨u, eu, _⟩ := at_in (xs := U) h0 h1
    have hu : u ∈ U := List.mem_of_getElem? eu
    have eat : Pl.at_ (U.map (pt T)) i = some (pt T u) := at_t (n := i.toNat) (by omega) (by rw [List.getElem?_map, eu]; rfl)
    have prev : Pl.at_ (U.map (pt T)) (i - 1) = some (pt T (lastO l (U.take i.toNat))) ∧ lastO l (U.take i.toNat) ∈ U := by
      by_cases c0 : i = 0
      · subst c0
        exact ⟨atl, List.mem_of_getLast? hlast⟩
      · have ne : U.take i.toNat ≠ [] := fun e => by
          have := congrArg List.length e
          rw [List.length_take, List.length_nil] at this
          omega
        have e1 := lastO_get (l := l) ne
        have e2 : (U.take i.toNat).getLast? = U[i.toNat - 1]? := by
          rw [List.getLast?_take]
          rw [if_neg (by omega)]
          cases hx : U[i.toNat - 1]? with
          | none => have := List.getElem?_eq_none_iff.mp hx; omega
          | some x => rfl
        have e3 := e2.symm.trans e1
        exact ⟨at_t (n := i.toNat - 1) (by omega) (by rw [List.getElem?_map, e3]; rfl), List.mem_of_getElem? e3⟩
    have etk : U.take (i + 1).toNat = U.take i.toNat ++ [u] := by
      rw [show (i + 1).toNat = i.toNat + 1 by omega, List.take_succ, eu]
      rfl
    refine Tot.of prev.1 (Tot.of eat ?_)
    refine Tot.of (beyond_t A hs ht hn (hU _ prev.2)) (Tot.of (beyond_t A hs ht hn (hU u hu)) ?_)
    rw [etk, clipF_snoc, List.map_append]
    generalize hp : lastO l (U.take i.toNat) = p at *
    have hF : (clipF (lin s c t) l (U.take i.toNat)).length ≤ 2000 := by
      have := clipF_len (lin s c t) l (U.take i.toNat)
      have := List.length_take_le i.toNat U
      omega
    generalize hFF : (clipF (lin s c t) l (U.take i.toNat)).map (pt T) = F
    have hFl : F.length ≤ 2000 := by rw [← hFF, List.length_map]; exact hF
    refine Tot.bind (Ψ := fun r => r = F ++ (if cross (lin s c t) p u = true then [pt T (cut (lin s c t) p u)] else [])) ?_ ?_
    · refine Tot.ite (fun x => ?_) fun x => ?_
      · have x : cross (lin s c t) p u = true := x
        refine Tot.of (cut_t A hs ht hn (hU _ prev.2) (hU u hu)) (Tot.of (app_t (by unfold szl; omega)) ⟨_, rfl, by rw [if_pos x]⟩)
      · have x : cross (lin s c t) p u = false := x
        exact ⟨_, rfl, by rw [x]; simp⟩
    · rintro r rfl
      refine Tot.bind (Ψ := fun r => r = F ++ (if cross (lin s c t) p u = true then [pt T (cut (lin s c t) p u)] else []) ++ (if dot (lin s c t) u ≤ 0 then [pt T u] else [])) ?_ ?_
      · refine Tot.ite (fun x => ?_) fun x => ?_
        · have x := of_decide_eq_true x
          refine Tot.of (app_t ?_) ⟨_, rfl, by rw [if_pos x]⟩
          rw [List.length_append]
          unfold szl
          split <;> simp <;> omega
        · have x := of_decide_eq_false x
          exact ⟨_, rfl, by rw [if_neg x, List.append_nil]⟩
      · rintro r rfl
        refine ⟨_, rfl, ?_⟩
        rw [List.append_assoc]
        congr 1
        unfold Wt.step
        rw [List.map_append]
        congr 1
        · split <;> rfl
        · split <;> rfl
  · rintro r rfl
    refine ⟨_, rfl, ?_⟩
    unfold clip
    rw [hlast]
    dsimp only
    rw [show ((U.length : Int)).toNat = U.length by omega, List.take_length]
theorem clip_b {T : Rc} {axis s t : Int} {c : Wt.A3} (A : Ax T axis c) (hs : Sgn s) (ht : Smn 30 t) {n : Nat} {U : List Wt.A3} (hU : ∀ u ∈ U, PB n T u) : ∀ u ∈ clip (lin s c t) U, PB (2 * n + 40) T u := by
  unfold clip
  cases hl : U.getLast? with
  | none => intro r hr; cases hr
  | some l =>
    intro r hr
    dsimp only at hr
    have key : ∀ (V : List Wt.A3) (p : Wt.A3), PB n T p → (∀ u ∈ V, PB n T u) → ∀ r ∈ clipF (lin s c t) p V, PB (2 * n + 40) T r := by
      intro V
      induction V with
      | nil => intro p _ _ r hr; cases hr
      | cons c2 cs ih =>
        intro p hp hV r hr
        have hc := hV c2 List.mem_cons_self
        rw [clipF, List.mem_append] at hr
        rcases hr with hr | hr
        · unfold Wt.step at hr
          rw [List.mem_append] at hr
          rcases hr with hr | hr
          · split at hr
            · rw [List.mem_singleton.mp hr]; exact cut_b A hs ht hp hc
            · cases hr
          · split at hr
            · rw [List.mem_singleton.mp hr]; exact hc.mono (by omega)
            · cases hr
        · exact ih c2 hc (fun u hu => hV u (List.mem_cons_of_mem _ hu)) r hr
    exact key U l (hU l (List.mem_of_getLast? hl)) hU r hr
def low4 (i : Int) : Prop := -20000 ≤ i ∧ i ≤ 20000
theorem low4.s {i : Int} (h : low4 i) : Smn 30 i := by
  unfold low4 at h
  unfold Smn
  omega
def lowP (p : P3) : Prop := low4 p.1 ∧ low4 p.2.1 ∧ low4 p.2.2
theorem forN4 {β σ : Type} {f : β → σ → Option σ} {a b c d : β} {s s1 s2 s3 s4 : σ} (h0 : f a s = some s1) (h1 : f b s1 = some s2) (h2 : f c s2 = some s3) (h3 : f d s3 = some s4) : Pl.forN f [a, b, c, d] s = some s4 := by
  simp [Pl.forN, h0, h1, h2, h3]
theorem over_t {p0 p1 p2 : P3} {x0 z0 x1 z1 : Int} (h0 : lowP p0) (h1 : lowP p1) (h2 : lowP p2) (hx0 : low4 x0) (hz0 : low4 z0) (hx1 : low4 x1) (hz1 : low4 z1) :
    p_law_over [p0, p1, p2] x0 z0 x1 z1 = some ((poly (rc p0 p1 p2 x0 z0 x1 z1)).map (pt (rc p0 p1 p2 x0 z0 x1 z1))) ∧ (∀ u ∈ poly (rc p0 p1 p2 x0 z0 x1 z1), PB 1200 (rc p0 p1 p2 x0 z0 x1 z1) u) ∧ (poly (rc p0 p1 p2 x0 z0 x1 z1)).length ≤ 100 := by
  generalize eT : rc p0 p1 p2 x0 z0 x1 z1 = T
  have s0 : ∀ u ∈ E3, PB 30 T u := by
    unfold E3
    simp only [List.mem_cons, List.not_mem_nil, or_false, forall_eq_or_imp, forall_eq]
    have o : Smn 30 (1 : Int) := by unfold Smn; decide
    refine ⟨?_, ?_, ?_⟩ <;> unfold PB <;> simp only [dot_e] <;> rw [← eT]
    · exact ⟨h0.1.s, h0.2.1.s, h0.2.2.s, o⟩
    · exact ⟨h1.1.s, h1.2.1.s, h1.2.2.s, o⟩
    · exact ⟨h2.1.s, h2.2.1.s, h2.2.2.s, o⟩
  have ex0 : T.x0 = x0 := by rw [← eT]; rfl
  have ex1 : T.x1 = x1 := by rw [← eT]; rfl
  have ez0 : T.z0 = z0 := by rw [← eT]; rfl
  have ez1 : T.z1 = z1 := by rw [← eT]; rfl
  have s1 := clip_b (ax0 T) (.inl rfl) hx0.s s0
  have s2 := clip_b (ax0 T) (.inr rfl) hx1.s s1
  have s3 := clip_b (ax2 T) (.inl rfl) hz0.s s2
  have s4 := clip_b (ax2 T) (.inr rfl) hz1.s s3
  have l1 := clip_len (lin (-1) T.xs x0) E3
  have l2 := clip_len (lin 1 T.xs x1) (clip (lin (-1) T.xs x0) E3)
  have l3 := clip_len (lin (-1) T.zs z0) (clip (lin 1 T.xs x1) (clip (lin (-1) T.xs x0) E3))
  have l4 := clip_len (lin 1 T.zs z1) (clip (lin (-1) T.zs z0) (clip (lin 1 T.xs x1) (clip (lin (-1) T.xs x0) E3)))
  have l0 : E3.length = 3 := rfl
  have ep : poly T = clip (lin 1 T.zs z1) (clip (lin (-1) T.zs z0) (clip (lin 1 T.xs x1) (clip (lin (-1) T.xs x0) E3))) := by
    unfold poly
    rw [ex0, ex1, ez0, ez1]
  rw [ep]
  refine ⟨?_, fun u hu => (s4 u hu).mono (by decide), by omega⟩
  refine Tot.get ?_
  unfold p_law_over
  have ini : [pt T e0, pt T e1, pt T e2] = E3.map (pt T) := rfl
  have pe : ∀ p : P3, p = p0 ∨ p = p1 ∨ p = p2 → True := fun _ _ => trivial
  refine Tot.of (r := E3.map (pt T)) ?_ ?_
  · rw [← ini]
    refine comp3 ?_ ?_ ?_
    · show some _ = some (pt T e0)
      unfold pt; simp only [dot_e]; rw [← eT]; rfl
    · show some _ = some (pt T e1)
      unfold pt; simp only [dot_e]; rw [← eT]; rfl
    · show some _ = some (pt T e2)
      unfold pt; simp only [dot_e]; rw [← eT]; rfl
  · have c1 := clip_t (ax0 T) (.inl rfl) hx0.s (by decide) s0 (by decide)
    have c2 := clip_t (ax0 T) (.inr rfl) hx1.s (by decide) s1 (by omega)
    have c3 := clip_t (ax2 T) (.inl rfl) hz0.s (by decide) s2 (by omega)
    have c4 := clip_t (ax2 T) (.inr rfl) hz1.s (by decide) s3 (by omega)
    refine Tot.of (forN4 (s1 := (clip (lin (-1) T.xs x0) E3).map (pt T)) (s2 := (clip (lin 1 T.xs x1) (clip (lin (-1) T.xs x0) E3)).map (pt T)) (s3 := (clip (lin (-1) T.zs z0) (clip (lin 1 T.xs x1) (clip (lin (-1) T.xs x0) E3))).map (pt T)) ?_ ?_ ?_ ?_) ⟨_, rfl, rfl⟩
    · show (p_law_clip _ 0 (-1) x0).bind _ = _
      rw [c1]; rfl
    · show (p_law_clip _ 0 1 x1).bind _ = _
      rw [c2]; rfl
    · show (p_law_clip _ 2 (-1) z0).bind _ = _
      rw [c3]; rfl
    · show (p_law_clip _ 2 1 z1).bind _ = _
      rw [c4]; rfl
/-- fractions in order -/
theorem fr_trans {a b c A B C : Int} (pB : 0 < B) (pA : 0 < A) (pC : 0 < C) (h1 : a * B ≤ b * A) (h2 : b * C ≤ c * B) : a * C ≤ c * A := by
  have k1 := Int.mul_le_mul_of_nonneg_left h1 (show 0 ≤ C by omega)
  have k2 := Int.mul_le_mul_of_nonneg_left h2 (show 0 ≤ A by omega)
  have : B * (a * C) ≤ B * (c * A) := by
    calc B * (a * C) = C * (a * B) := by grind
      _ ≤ C * (b * A) := k1
      _ = A * (b * C) := by grind
      _ ≤ A * (c * B) := k2
      _ = B * (c * A) := by grind
  exact Int.le_of_mul_le_mul_left this pB
theorem lext_t {p0 p1 p2 : P3} {x0 z0 x1 z1 : Int} (h0 : lowP p0) (h1 : lowP p1) (h2 : lowP p2) (hx0 : low4 x0) (hz0 : low4 z0) (hx1 : low4 x1) (hz1 : low4 z1) :
    Tot (p_law_extent [p0, p1, p2] x0 z0 x1 z1) fun r => (r = none ∧ poly (rc p0 p1 p2 x0 z0 x1 z1) = []) ∨ ∃ lo ∈ poly (rc p0 p1 p2 x0 z0 x1 z1), ∃ hi ∈ poly (rc p0 p1 p2 x0 z0 x1 z1), r = some [(dot (rc p0 p1 p2 x0 z0 x1 z1).ys lo, dot one lo), (dot (rc p0 p1 p2 x0 z0 x1 z1).ys hi, dot one hi)] ∧
      ∀ u ∈ poly (rc p0 p1 p2 x0 z0 x1 z1), dot (rc p0 p1 p2 x0 z0 x1 z1).ys lo * dot one u ≤ dot (rc p0 p1 p2 x0 z0 x1 z1).ys u * dot one lo ∧ dot (rc p0 p1 p2 x0 z0 x1 z1).ys u * dot one hi ≤ dot (rc p0 p1 p2 x0 z0 x1 z1).ys hi * dot one u := by
  obtain ⟨eo, pb, hl⟩ := over_t h0 h1 h2 hx0 hz0 hx1 hz1
  have pos : ∀ u ∈ poly (rc p0 p1 p2 x0 z0 x1 z1), 0 < dot one u := fun u hu => (poly_feas hu).1.2
  generalize rc p0 p1 p2 x0 z0 x1 z1 = T at *
  generalize poly T = U at *
  unfold p_law_extent
  refine Tot.of eo ?_
  rw [List.length_map]
  cases U with
  | nil => exact ⟨none, rfl, .inl ⟨rfl, rfl⟩⟩
  | cons v U =>
    refine Tot.iteF (decide_eq_false (by rw [List.length_cons]; omega)) ?_
    refine Tot.of (at_t (n := 0) (x := pt T v) rfl rfl) (Tot.of (at_t (n := 0) (x := pt T v) rfl rfl) ?_)
    refine Tot.forN (fun rest st => ∃ P R, v :: U = P ++ R ∧ rest = R.map (pt T) ∧ ∃ lo ∈ v :: U, ∃ hi ∈ v :: U, st = (pt T lo, pt T hi) ∧ ∀ u ∈ P, dot T.ys lo * dot one u ≤ dot T.ys u * dot one lo ∧ dot T.ys u * dot one hi ≤ dot T.ys hi * dot one u) ⟨[], v :: U, rfl, rfl, v, List.mem_cons_self, v, List.mem_cons_self, rfl, fun _ h => nomatch h⟩ ?_ ?_
    · rintro x rest st ⟨P, R, eP, eR, lo, hlo, hi, hhi, rfl, hP⟩
      cases R with
      | nil => cases eR
      | cons w R =>
        rw [List.map_cons, List.cons.injEq] at eR
        obtain ⟨rfl, rfl⟩ := eR
        have hw : w ∈ v :: U := by rw [eP]; exact List.mem_append_right _ List.mem_cons_self
        have bw := pb w hw
        have bl := pb lo hlo
        have bh := pb hi hhi
        have m1 : Pl.mul (dot T.ys w) (dot one lo) = some (dot T.ys w * dot one lo) := mul_t bw.2.1 bl.2.2.2 (by decide) (by decide)
        have m2 : Pl.mul (dot T.ys lo) (dot one w) = some (dot T.ys lo * dot one w) := mul_t bl.2.1 bw.2.2.2 (by decide) (by decide)
        have m3 : Pl.mul (dot T.ys w) (dot one hi) = some (dot T.ys w * dot one hi) := mul_t bw.2.1 bh.2.2.2 (by decide) (by decide)
        have m4 : Pl.mul (dot T.ys hi) (dot one w) = some (dot T.ys hi * dot one w) := mul_t bh.2.1 bw.2.2.2 (by decide) (by decide)
        refine Tot.of (r := dot T.ys w) rfl (Tot.of (r := dot one lo) rfl (Tot.of m1 (Tot.of (r := dot T.ys lo) rfl (Tot.of (r := dot one w) rfl (Tot.of m2 ?_)))))
        refine Tot.bind (Ψ := fun j => ∃ lo2 ∈ v :: U, j = pt T lo2 ∧ dot T.ys lo2 * dot one w ≤ dot T.ys w * dot one lo2 ∧ dot T.ys lo2 * dot one lo ≤ dot T.ys lo * dot one lo2) ?_ ?_
        · refine Tot.ite (fun c => ?_) fun c => ?_
          · have c := of_decide_eq_true c
            exact ⟨_, rfl, w, hw, rfl, Int.le_refl _, by omega⟩
          · have c := of_decide_eq_false c
            exact ⟨_, rfl, lo, hlo, rfl, by omega, Int.le_refl _⟩
        rintro j ⟨lo2, hlo2, rfl, q1, q2⟩
        refine Tot.of (r := dot T.ys w) rfl (Tot.of (r := dot one hi) rfl (Tot.of m3 (Tot.of (r := dot T.ys hi) rfl (Tot.of (r := dot one w) rfl (Tot.of m4 ?_)))))
        refine Tot.bind (Ψ := fun j => ∃ hi2 ∈ v :: U, j = pt T hi2 ∧ dot T.ys w * dot one hi2 ≤ dot T.ys hi2 * dot one w ∧ dot T.ys hi * dot one hi2 ≤ dot T.ys hi2 * dot one hi) ?_ ?_
        · refine Tot.ite (fun c => ?_) fun c => ?_
          · have c := of_decide_eq_true c
            exact ⟨_, rfl, w, hw, rfl, Int.le_refl _, by omega⟩
          · have c := of_decide_eq_false c
            exact ⟨_, rfl, hi, hhi, rfl, by omega, Int.le_refl _⟩
        rintro j ⟨hi2, hhi2, rfl, q3, q4⟩
        refine ⟨_, rfl, P ++ [w], R, by rw [eP, List.append_assoc]; rfl, rfl, lo2, hlo2, hi2, hhi2, rfl, fun u hu => ?_⟩
        rcases List.mem_append.mp hu with hu | hu
        · have pu : 0 < dot one u := pos u (by rw [eP]; exact List.mem_append_left _ hu)
          obtain ⟨k1, k2⟩ := hP u hu
          exact ⟨fr_trans (pos lo hlo) (pos lo2 hlo2) pu q2 k1, fr_trans (pos hi hhi) pu (pos hi2 hhi2) k2 q4⟩
        · rw [List.mem_singleton.mp hu]
          exact ⟨q1, q3⟩
    · rintro st ⟨P, R, eP, eR, lo, hlo, hi, hhi, rfl, hP⟩
      cases R with
      | cons w R => cases eR
      | nil =>
        rw [List.append_nil] at eP
        refine Tot.of (r := dot T.ys lo) rfl (Tot.of (r := dot one lo) rfl (Tot.of (r := dot T.ys hi) rfl (Tot.of (r := dot one hi) rfl ⟨_, rfl, .inr ⟨lo, hlo, hi, hhi, rfl, fun u hu => hP u (by rw [← eP]; exact hu)⟩⟩)))
end W

set_option Elab.async false
set_option linter.all false
set_option maxRecDepth 100000
set_option maxHeartbeats 1000000
/-! the program's points, walked -/
namespace W
open PySem L2 Mi Wt
theorem d31 {a b : Int} (ha : Smn 30 a) (hb : Smn 30 b) : Smn 31 (a - b) := by
  have := Smn.sub ha hb
  rwa [Nat.max_self] at this
def edgeN (pa qa po qo t : Int) : Int := po * (qa - pa) + (qo - po) * (t - pa)
def edgeV (pa qa po qo py qy t low high : Int) : Option (Int × Int) :=
  if (decide (qa - pa = 0) || !(decide ((if qa < pa then qa else pa) ≤ t) && decide (t ≤ (if qa > pa then qa else pa)))) = true then none
  else if (!(decide (low * (p_positive (edgeN pa qa po qo t) (qa - pa)).2 ≤ (p_positive (edgeN pa qa po qo t) (qa - pa)).1) && decide ((p_positive (edgeN pa qa po qo t) (qa - pa)).1 ≤ high * (p_positive (edgeN pa qa po qo t) (qa - pa)).2))) = true then none
  else some (p_positive (edgeN pa qa py qy t) (qa - pa))
theorem edgeN_b {pa qa po qo t : Int} (h1 : Smn 30 pa) (h2 : Smn 30 qa) (h3 : Smn 30 po) (h4 : Smn 30 qo) (h5 : Smn 30 t) : Smn 100 (edgeN pa qa po qo t) := (Smn.add (Smn.mul h3 (d31 h2 h1)) (Smn.mul (d31 h4 h3) (d31 h5 h1))).mono (by decide)
theorem pos_b {n m : Nat} {a d : Int} (h1 : Smn n a) (h2 : Smn m d) : Smn n (p_positive a d).1 ∧ Smn m (p_positive a d).2 := by
  unfold p_positive
  split
  · exact ⟨h1.neg, h2.neg⟩
  · exact ⟨h1, h2⟩
theorem edge_g {p q : P3} {axis pa qa po qo t low high : Int} (a1 : Pl.at_ [p.1, p.2.1, p.2.2] axis = some pa) (a2 : Pl.at_ [q.1, q.2.1, q.2.2] axis = some qa) (o1 : Pl.at_ [p.1, p.2.1, p.2.2] (2 - axis) = some po) (o2 : Pl.at_ [q.1, q.2.1, q.2.2] (2 - axis) = some qo) (h1 : Smn 30 pa) (h2 : Smn 30 qa) (h3 : Smn 30 po) (h4 : Smn 30 qo) (h5 : Smn 30 t) (h6 : Smn 30 p.2.1) (h7 : Smn 30 q.2.1) (h8 : Smn 30 low) (h9 : Smn 30 high) :
    p_on_edge p q axis t low high = some (edgeV pa qa po qo p.2.1 q.2.1 t low high) := by
  have b1 := d31 h2 h1
  have b2 := d31 h4 h3
  have b3 := d31 h5 h1
  have b4 := d31 h7 h6
  have m1 : Pl.mul po (qa - pa) = some (po * (qa - pa)) := mul_t h3 b1 (by decide) (by decide)
  have m2 : Pl.mul (qo - po) (t - pa) = some ((qo - po) * (t - pa)) := mul_t b2 b3 (by decide) (by decide)
  have m5 : Pl.mul p.2.1 (qa - pa) = some (p.2.1 * (qa - pa)) := mul_t h6 b1 (by decide) (by decide)
  have m6 : Pl.mul (q.2.1 - p.2.1) (t - pa) = some ((q.2.1 - p.2.1) * (t - pa)) := mul_t b4 b3 (by decide) (by decide)
  have bp := pos_b (edgeN_b h1 h2 h3 h4 h5) b1
  have m3 : Pl.mul low (p_positive (edgeN pa qa po qo t) (qa - pa)).2 = some (low * (p_positive (edgeN pa qa po qo t) (qa - pa)).2) := mul_t h8 bp.2 (by decide) (by decide)
  have m4 : Pl.mul high (p_positive (edgeN pa qa po qo t) (qa - pa)).2 = some (high * (p_positive (edgeN pa qa po qo t) (qa - pa)).2) := mul_t h9 bp.2 (by decide) (by decide)
  refine Tot.get ?_
  unfold p_on_edge edgeV
  rw [a1, a2, o1, o2]
  refine Tot.nm (Tot.nm (Tot.nm ?_))
  refine Tot.of (r := decide (qa - pa = 0) || !(decide ((if qa < pa then qa else pa) ≤ t) && decide (t ≤ (if qa > pa then qa else pa)))) ?_ ?_
  · simp only [Option.bind_some, andO_t, orO_t]
  refine Tot.ite (fun c => ⟨_, rfl, by rw [if_pos c]⟩) fun c => ?_
  rw [if_neg (by rw [c]; decide)]
  refine Tot.nm (Tot.nm (Tot.nm (Tot.of m1 (Tot.nm (Tot.nm (Tot.of m2 (Tot.nm ?_)))))))
  refine Tot.of m3 ?_
  refine Tot.of (r := decide (low * (p_positive (edgeN pa qa po qo t) (qa - pa)).2 ≤ (p_positive (edgeN pa qa po qo t) (qa - pa)).1) && decide ((p_positive (edgeN pa qa po qo t) (qa - pa)).1 ≤ high * (p_positive (edgeN pa qa po qo t) (qa - pa)).2)) ?_ ?_
  · show Pl.andO (decide (low * (p_positive (edgeN pa qa po qo t) (qa - pa)).2 ≤ (p_positive (edgeN pa qa po qo t) (qa - pa)).1)) ((Pl.mul high (p_positive (edgeN pa qa po qo t) (qa - pa)).2).bind fun t19 => some (decide ((p_positive (edgeN pa qa po qo t) (qa - pa)).1 ≤ t19))) = _
    rw [m4]
    exact andO_t
  refine Tot.ite (fun c => ⟨_, rfl, (if_pos c).symm⟩) fun c => ?_
  refine Tot.of m5 (Tot.of m6 ⟨_, rfl, ?_⟩)
  exact (if_neg (by rw [show (!(decide (low * (p_positive (edgeN pa qa po qo t) (qa - pa)).2 ≤ (p_positive (edgeN pa qa po qo t) (qa - pa)).1) && decide ((p_positive (edgeN pa qa po qo t) (qa - pa)).1 ≤ high * (p_positive (edgeN pa qa po qo t) (qa - pa)).2))) = false from c]; decide)).symm
theorem edgeN_swap (pa qa po qo t : Int) : edgeN qa pa qo po t = -edgeN pa qa po qo t := by
  unfold edgeN
  grind
theorem pos_swap (n d : Int) (h : d ≠ 0) : p_positive (-n) (-d) = p_positive n d := by
  unfold p_positive
  by_cases c : d < 0
  · rw [show decide (-d < 0) = false from decide_eq_false (by omega), show decide (d < 0) = true from decide_eq_true c]
    rfl
  · rw [show decide (-d < 0) = true from decide_eq_true (by omega), show decide (d < 0) = false from decide_eq_false c]
    show (- -n, - -d) = (n, d)
    rw [Int.neg_neg, Int.neg_neg]
theorem edgeV_swap {pa qa po qo py qy t low high : Int} (h : pa ≠ qa) : edgeV qa pa qo po qy py t low high = edgeV pa qa po qo py qy t low high := by
  unfold edgeV
  rw [edgeN_swap pa qa po qo t, edgeN_swap pa qa py qy t, show pa - qa = -(qa - pa) by omega, pos_swap _ _ (by omega), pos_swap _ _ (by omega)]
  have e1 : (if pa < qa then pa else qa) = if qa < pa then qa else pa := by split <;> split <;> omega
  have e2 : (if pa > qa then pa else qa) = if qa > pa then qa else pa := by split <;> split <;> omega
  rw [e1, e2, decide_eq_false (show ¬ -(qa - pa) = 0 by omega), decide_eq_false (show ¬ qa - pa = 0 by omega)]
theorem edgeV_lt {pa qa po qo py qy t low high : Int} (h : pa < qa) : edgeV pa qa po qo py qy t low high = if pa ≤ t ∧ t ≤ qa ∧ low * (qa - pa) ≤ edgeN pa qa po qo t ∧ edgeN pa qa po qo t ≤ high * (qa - pa) then some (edgeN pa qa py qy t, qa - pa) else none := by
  have pp : ∀ n, p_positive n (qa - pa) = (n, qa - pa) := fun n => by
    unfold p_positive
    rw [if_neg (by rw [decide_eq_true_eq]; omega)]
  unfold edgeV
  rw [pp, pp, if_neg (show ¬ qa < pa by omega), if_pos (show qa > pa from h), decide_eq_false (show ¬ qa - pa = 0 by omega)]
  by_cases c1 : pa ≤ t
  · by_cases c2 : t ≤ qa
    · by_cases c3 : low * (qa - pa) ≤ edgeN pa qa po qo t
      · by_cases c4 : edgeN pa qa po qo t ≤ high * (qa - pa)
        · simp [c1, c2, c3, c4]
        · simp [c1, c2, c3, c4]
      · simp [c1, c2, c3]
    · simp [c1, c2]
  · simp [c1]
/-- what an edge's crossing tells -/
def On (pa qa po qo py qy t low high n d a b : Int) : Prop := 0 < d ∧ 0 ≤ a ∧ 0 ≤ b ∧ a + b = d ∧ a * pa + b * qa = t * d ∧ (low * d ≤ a * po + b * qo ∧ a * po + b * qo ≤ high * d) ∧ n = a * py + b * qy
theorem edge_sound {pa qa po qo py qy t low high n d : Int} (h : edgeV pa qa po qo py qy t low high = some (n, d)) : ∃ a b, On pa qa po qo py qy t low high n d a b := by
  have lt : ∀ {pa qa po qo py qy : Int}, pa < qa → edgeV pa qa po qo py qy t low high = some (n, d) → ∃ a b, On pa qa po qo py qy t low high n d a b := by
    intro pa qa po qo py qy c h
    rw [edgeV_lt c] at h
    split at h
    · rename_i k
      rw [Option.some.injEq, Prod.mk.injEq] at h
      obtain ⟨rfl, rfl⟩ := h
      have e : ∀ x y : Int, edgeN pa qa x y t = (qa - t) * x + (t - pa) * y := fun x y => by unfold edgeN; grind
      refine ⟨qa - t, t - pa, by omega, by omega, by omega, by omega, by grind, ⟨?_, ?_⟩, e py qy⟩
      · rw [← e]; exact k.2.2.1
      · rw [← e]; exact k.2.2.2
    · cases h
  rcases (by omega : pa < qa ∨ pa = qa ∨ qa < pa) with c | c | c
  · exact lt c h
  · exfalso
    subst c
    unfold edgeV at h
    rw [Int.sub_self, decide_eq_true rfl] at h
    simp at h
  · rw [← edgeV_swap (by omega)] at h
    obtain ⟨a, b, h1, h2, h3, h4, h5, h6, h7⟩ := lt c h
    exact ⟨b, a, h1, h3, h2, by omega, by omega, by omega, by omega⟩
theorem edge_complete {pa qa po qo py qy t low high a b : Int} (ha : 0 ≤ a) (hb : 0 ≤ b) (hs : 0 < a + b) (hne : pa ≠ qa) (ht : a * pa + b * qa = t * (a + b)) (hl : low * (a + b) ≤ a * po + b * qo) (hh : a * po + b * qo ≤ high * (a + b)) : ∃ n d, edgeV pa qa po qo py qy t low high = some (n, d) ∧ n * (a + b) = d * (a * py + b * qy) := by
  have lt : ∀ {pa qa po qo py qy a b : Int}, pa < qa → 0 ≤ a → 0 ≤ b → 0 < a + b → a * pa + b * qa = t * (a + b) → low * (a + b) ≤ a * po + b * qo → a * po + b * qo ≤ high * (a + b) → ∃ n d, edgeV pa qa po qo py qy t low high = some (n, d) ∧ n * (a + b) = d * (a * py + b * qy) := by
    intro pa qa po qo py qy a b c ha hb hs ht hl hh
    have e1 : (t - pa) * (a + b) = b * (qa - pa) := by grind
    have e2 : (qa - t) * (a + b) = a * (qa - pa) := by grind
    have e : ∀ x y : Int, edgeN pa qa x y t * (a + b) = (qa - pa) * (a * x + b * y) := fun x y => by
      have : edgeN pa qa x y t = (qa - t) * x + (t - pa) * y := by unfold edgeN; grind
      rw [this]
      calc ((qa - t) * x + (t - pa) * y) * (a + b) = ((qa - t) * (a + b)) * x + ((t - pa) * (a + b)) * y := by grind
        _ = (a * (qa - pa)) * x + (b * (qa - pa)) * y := by rw [e1, e2]
        _ = (qa - pa) * (a * x + b * y) := by grind
    have k1 : 0 ≤ t - pa := by
      have : 0 ≤ (t - pa) * (a + b) := by rw [e1]; exact Int.mul_nonneg hb (by omega)
      exact Int.nonneg_of_mul_nonneg_left this hs
    have k2 : 0 ≤ qa - t := by
      have : 0 ≤ (qa - t) * (a + b) := by rw [e2]; exact Int.mul_nonneg ha (by omega)
      exact Int.nonneg_of_mul_nonneg_left this hs
    have k3 : low * (qa - pa) ≤ edgeN pa qa po qo t := by
      have h1 := Int.mul_le_mul_of_nonneg_left hl (show 0 ≤ qa - pa by omega)
      rw [← e] at h1
      have h2 : low * (qa - pa) * (a + b) ≤ edgeN pa qa po qo t * (a + b) := by
        calc low * (qa - pa) * (a + b) = (qa - pa) * (low * (a + b)) := by grind
          _ ≤ _ := h1
      exact Int.le_of_mul_le_mul_right h2 hs
    have k4 : edgeN pa qa po qo t ≤ high * (qa - pa) := by
      have h1 := Int.mul_le_mul_of_nonneg_left hh (show 0 ≤ qa - pa by omega)
      rw [← e] at h1
      have h2 : edgeN pa qa po qo t * (a + b) ≤ high * (qa - pa) * (a + b) := by
        calc _ ≤ (qa - pa) * (high * (a + b)) := h1
          _ = _ := by grind
      exact Int.le_of_mul_le_mul_right h2 hs
    exact ⟨_, _, by rw [edgeV_lt c, if_pos ⟨by omega, by omega, k3, k4⟩], e py qy⟩
  rcases (by omega : pa < qa ∨ qa < pa) with c | c
  · exact lt c ha hb hs ht hl hh
  · obtain ⟨n, d, h1, h2⟩ := lt (po := qo) (qo := po) (py := qy) (qy := py) c hb ha (by omega) (by rw [Int.add_comm b a]; omega) (by rw [Int.add_comm b a]; omega) (by rw [Int.add_comm b a]; omega)
    refine ⟨n, d, by rw [← edgeV_swap (by omega)]; exact h1, ?_⟩
    rw [Int.add_comm a b, h2, Int.add_comm (b * qy)]
theorem edge_b {pa qa po qo py qy t low high n d : Int} (h1 : Smn 30 pa) (h2 : Smn 30 qa) (h5 : Smn 30 t) (h6 : Smn 30 py) (h7 : Smn 30 qy) (h : edgeV pa qa po qo py qy t low high = some (n, d)) : Smn 200 n ∧ Smn 200 d := by
  unfold edgeV at h
  generalize (decide (qa - pa = 0) || !(decide ((if qa < pa then qa else pa) ≤ t) && decide (t ≤ (if qa > pa then qa else pa)))) = c1 at h
  generalize (!(decide (low * (p_positive (edgeN pa qa po qo t) (qa - pa)).2 ≤ (p_positive (edgeN pa qa po qo t) (qa - pa)).1) && decide ((p_positive (edgeN pa qa po qo t) (qa - pa)).1 ≤ high * (p_positive (edgeN pa qa po qo t) (qa - pa)).2))) = c2 at h
  cases c1
  · cases c2
    · have h : some (p_positive (edgeN pa qa py qy t) (qa - pa)) = some (n, d) := h
      have := pos_b (edgeN_b h1 h2 h6 h7 h5) (d31 h2 h1)
      rw [Option.some.injEq] at h
      rw [h] at this
      exact ⟨this.1.mono (by decide), this.2.mono (by decide)⟩
    · cases h
  · cases h
/-! corners -/
def up3 (p0 p1 p2 : P3) : P3 := ((p1.2.1 - p0.2.1) * (p2.2.2 - p0.2.2) - (p1.2.2 - p0.2.2) * (p2.2.1 - p0.2.1), (p1.2.2 - p0.2.2) * (p2.1 - p0.1) - (p1.1 - p0.1) * (p2.2.2 - p0.2.2), (p1.1 - p0.1) * (p2.2.1 - p0.2.1) - (p1.2.1 - p0.2.1) * (p2.1 - p0.1))
def sd (p q : P3) (x z : Int) : Int := (q.1 - p.1) * (z - p.2.2) - (q.2.2 - p.2.2) * (x - p.1)
def SP (p : P3) : Prop := Smn 30 p.1 ∧ Smn 30 p.2.1 ∧ Smn 30 p.2.2
theorem normal_t {p0 p1 p2 : P3} (h0 : SP p0) (h1 : SP p1) (h2 : SP p2) : p_normal [p0, p1, p2] = some (up3 p0 p1 p2) := by
  have a := d31 h1.1 h0.1
  have b := d31 h1.2.1 h0.2.1
  have c := d31 h1.2.2 h0.2.2
  have d := d31 h2.1 h0.1
  have e := d31 h2.2.1 h0.2.1
  have f := d31 h2.2.2 h0.2.2
  refine Tot.get ?_
  unfold p_normal
  refine Tot.of (r := p1) rfl (Tot.of (r := p0) rfl (Tot.nm (Tot.of (r := p2) rfl (Tot.of (r := p0) rfl (Tot.nm ?_)))))
  exact Tot.of (mul_t b f (by decide) (by decide)) (Tot.of (mul_t c e (by decide) (by decide)) (Tot.of (mul_t c d (by decide) (by decide)) (Tot.of (mul_t a f (by decide) (by decide)) (Tot.of (mul_t a e (by decide) (by decide)) (Tot.of (mul_t b d (by decide) (by decide)) ⟨_, rfl, rfl⟩)))))
theorem up_b {p0 p1 p2 : P3} (h0 : SP p0) (h1 : SP p1) (h2 : SP p2) : Smn 70 (up3 p0 p1 p2).1 ∧ Smn 70 (up3 p0 p1 p2).2.1 ∧ Smn 70 (up3 p0 p1 p2).2.2 := by
  have a := d31 h1.1 h0.1
  have b := d31 h1.2.1 h0.2.1
  have c := d31 h1.2.2 h0.2.2
  have d := d31 h2.1 h0.1
  have e := d31 h2.2.1 h0.2.1
  have f := d31 h2.2.2 h0.2.2
  have k : ∀ {i j k l : Int}, Smn 31 i → Smn 31 j → Smn 31 k → Smn 31 l → Smn 70 (i * j - k * l) := fun h1 h2 h3 h4 => (Smn.sub (Smn.mul h1 h2) (Smn.mul h3 h4)).mono (by decide)
  exact ⟨k b f c e, k c d a f, k a e b d⟩
theorem side_t {p q : P3} {x z : Int} (hp : SP p) (hq : SP q) (hx : Smn 30 x) (hz : Smn 30 z) : p_side p q x z = some (sd p q x z) := by
  unfold p_side
  rw [mul_t (d31 hq.1 hp.1) (d31 hz hp.2.2) (by decide) (by decide), mul_t (d31 hq.2.2 hp.2.2) (d31 hx hp.1) (by decide) (by decide)]
  rfl
def mixed (a b c : Int) : Prop := (a < 0 ∨ b < 0 ∨ c < 0) ∧ (0 < a ∨ 0 < b ∨ 0 < c)
def cornN (p0 p1 p2 : P3) (x z : Int) : Int := p0.2.1 * (up3 p0 p1 p2).2.1 - (up3 p0 p1 p2).1 * (x - p0.1) - (up3 p0 p1 p2).2.2 * (z - p0.2.2)
theorem corner_t {p0 p1 p2 : P3} (h0 : SP p0) (h1 : SP p1) (h2 : SP p2) {x z : Int} (hx : Smn 30 x) (hz : Smn 30 z) : Tot (p_at_corner [p0, p1, p2] (up3 p0 p1 p2) x z) fun r => (r = none ∧ ((up3 p0 p1 p2).2.1 = 0 ∨ mixed (sd p0 p1 x z) (sd p1 p2 x z) (sd p2 p0 x z))) ∨ (r = some (p_positive (cornN p0 p1 p2 x z) (up3 p0 p1 p2).2.1) ∧ (up3 p0 p1 p2).2.1 ≠ 0 ∧ ¬ mixed (sd p0 p1 x z) (sd p1 p2 x z) (sd p2 p0 x z)) := by
  have ub := up_b h0 h1 h2
  unfold p_at_corner
  refine Tot.ite (fun c => ⟨_, rfl, .inl ⟨rfl, .inl (of_decide_eq_true c)⟩⟩) fun c => ?_
  have c := of_decide_eq_false c
  rw [rng3O]
  refine Tot.nm ?_
  refine Tot.of (comp3 (x := sd p0 p1 x z) (y := sd p1 p2 x z) (z := sd p2 p0 x z) ?_ ?_ ?_) ?_
  · show ((p_side p0 p1 x z).bind fun t6 => some t6) = _
    rw [side_t h0 h1 hx hz]; rfl
  · show ((p_side p1 p2 x z).bind fun t6 => some t6) = _
    rw [side_t h1 h2 hx hz]; rfl
  · show ((p_side p2 p0 x z).bind fun t6 => some t6) = _
    rw [side_t h2 h0 hx hz]; rfl
  generalize sd p0 p1 x z = a
  generalize sd p1 p2 x z = b
  generalize sd p2 p0 x z = d
  have key : (decide ([b, d].foldl (fun a b => if b < a then b else a) a < 0) && decide (0 < [b, d].foldl (fun a b => if a < b then b else a) a)) = true ↔ mixed a b d := by
    unfold mixed
    rw [Bool.and_eq_true, decide_eq_true_eq, decide_eq_true_eq]
    show (if d < (if b < a then b else a) then d else (if b < a then b else a)) < 0 ∧ 0 < (if (if a < b then b else a) < d then d else (if a < b then b else a)) ↔ _
    constructor
    · rintro ⟨k1, k2⟩
      repeat' split at k1
      all_goals (repeat' split at k2)
      all_goals omega
    · rintro ⟨k1, k2⟩
      constructor
      · repeat' split
        all_goals omega
      · repeat' split
        all_goals omega
  refine Tot.of (r := [b, d].foldl (fun a b => if b < a then b else a) a) rfl ?_
  refine Tot.of (andO_t (q := decide (0 < [b, d].foldl (fun a b => if a < b then b else a) a))) ?_
  refine Tot.ite (fun k => ⟨_, rfl, .inl ⟨rfl, .inr (key.mp k)⟩⟩) fun k => ?_
  refine Tot.of (r := p0) rfl ?_
  refine Tot.of (mul_t h0.2.1 ub.2.1 (by decide) (by decide)) (Tot.of (mul_t ub.1 (d31 hx h0.1) (by decide) (by decide)) (Tot.of (mul_t ub.2.2 (d31 hz h0.2.2) (by decide) (by decide)) ⟨_, rfl, .inr ⟨rfl, c, fun m => ?_⟩⟩))
  rw [key.mpr m] at k
  cases k
theorem cornN_b {p0 p1 p2 : P3} (h0 : SP p0) (h1 : SP p1) (h2 : SP p2) {x z : Int} (hx : Smn 30 x) (hz : Smn 30 z) : Smn 200 (cornN p0 p1 p2 x z) := by
  have ub := up_b h0 h1 h2
  exact (Smn.sub (Smn.sub (Smn.mul h0.2.1 ub.2.1) (Smn.mul ub.1 (d31 hx h0.1))) (Smn.mul ub.2.2 (d31 hz h0.2.2))).mono (by decide)
end W

set_option Elab.async false
set_option linter.all false
set_option maxRecDepth 100000
set_option maxHeartbeats 1000000
/-! the program's points: sound and complete -/
namespace W
open PySem L2 Mi Wt
def vtx (x0 z0 x1 z1 : Int) (p : P3) : List (Option (Int × Int)) := if (((decide (x0 ≤ p.1)) && (decide (p.1 ≤ x1))) && ((decide (z0 ≤ p.2.2)) && (decide (p.2.2 ≤ z1)))) = true then [some (p.2.1, 1)] else []
def eX (z0 z1 : Int) (p q : P3) (t : Int) : Option (Int × Int) := edgeV p.1 q.1 p.2.2 q.2.2 p.2.1 q.2.1 t z0 z1
def eZ (x0 x1 : Int) (p q : P3) (t : Int) : Option (Int × Int) := edgeV p.2.2 q.2.2 p.1 q.1 p.2.1 q.2.1 t x0 x1
def blk (x0 z0 x1 z1 : Int) (p q : P3) : List (Option (Int × Int)) := vtx x0 z0 x1 z1 p ++ [eX z0 z1 p q x0, eX z0 z1 p q x1] ++ [eZ x0 x1 p q z0, eZ x0 x1 p q z1]
def CF (p0 p1 p2 : P3) (x z : Int) (r : Option (Int × Int)) : Prop := (r = none ∧ ((up3 p0 p1 p2).2.1 = 0 ∨ mixed (sd p0 p1 x z) (sd p1 p2 x z) (sd p2 p0 x z))) ∨ (r = some (p_positive (cornN p0 p1 p2 x z) (up3 p0 p1 p2).2.1) ∧ (up3 p0 p1 p2).2.1 ≠ 0 ∧ ¬ mixed (sd p0 p1 x z) (sd p1 p2 x z) (sd p2 p0 x z))
theorem comp2 {β γ : Type} {f : β → Option γ} {a b : β} {x y : γ} (h0 : f a = some x) (h1 : f b = some y) : Pl.comp (fun _ => some true) f [a, b] = some [x, y] := by
  unfold Pl.comp
  rw [if_pos (show [a, b].length ≤ szl from (by decide : 2 ≤ szl))]
  simp [Pl.cmp, h0, h1]
theorem blk_len (x0 z0 x1 z1 : Int) (p q : P3) : (blk x0 z0 x1 z1 p q).length ≤ 5 := by
  unfold blk vtx
  split <;> simp
theorem low4.SP {p : P3} (h : lowP p) : SP p := ⟨h.1.s, h.2.1.s, h.2.2.s⟩
def allC (p0 p1 p2 : P3) (x0 z0 x1 z1 : Int) (c00 c01 c10 c11 : Option (Int × Int)) : List (Option (Int × Int)) := blk x0 z0 x1 z1 p0 p1 ++ blk x0 z0 x1 z1 p1 p2 ++ blk x0 z0 x1 z1 p2 p0 ++ [c00, c01] ++ [c10, c11]
theorem heights_t {p0 p1 p2 : P3} {x0 z0 x1 z1 : Int} (h0 : SP p0) (h1 : SP p1) (h2 : SP p2) (hx0 : Smn 30 x0) (hz0 : Smn 30 z0) (hx1 : Smn 30 x1) (hz1 : Smn 30 z1) :
    Tot (p_heights [p0, p1, p2] x0 z0 x1 z1) fun R => ∃ c00 c01 c10 c11, CF p0 p1 p2 x0 z0 c00 ∧ CF p0 p1 p2 x0 z1 c01 ∧ CF p0 p1 p2 x1 z0 c10 ∧ CF p0 p1 p2 x1 z1 c11 ∧ (∀ r, r ∈ R ↔ some r ∈ allC p0 p1 p2 x0 z0 x1 z1 c00 c01 c10 c11) ∧ R.length ≤ 100 := by
  have body : ∀ (k m : Int) (p q : P3) (s : List (Option (Int × Int))), SP p → SP q → Pl.at_ [p0, p1, p2] k = some p → Pl.mod (k + 1) 3 = some m → Pl.at_ [p0, p1, p2] m = some q → s.length ≤ 60 → Tot ((Pl.at_ [p0, p1, p2] k).bind fun t8 => (Pl.mod (k + (1 : Int)) (3 : Int)).bind fun t9 => (Pl.at_ [p0, p1, p2] t9).bind fun t10 =>
      ((if (((decide (x0 ≤ t8.1)) && (decide (t8.1 ≤ x1))) && ((decide (z0 ≤ t8.2.2)) && (decide (t8.2.2 ≤ z1)))) = true then (Pl.app s (some (t8.2.1, (1 : Int)))).bind fun v_found12 => some (v_found12) else some (s)) : Option ((List (Option (Int × Int))))).bind fun j11 =>
      (Pl.comp (fun (x13 : Int) => (some true)) (fun (x13 : Int) => ((p_on_edge t8 t10 (0 : Int) x13 z0 z1).bind fun t14 => some t14)) [((x0, x1)).1, ((x0, x1)).2]).bind fun t15 =>
      (Pl.cat j11 t15).bind fun v_found16 =>
      (Pl.comp (fun (x17 : Int) => (some true)) (fun (x17 : Int) => ((p_on_edge t8 t10 (2 : Int) x17 x0 x1).bind fun t18 => some t18)) [((z0, z1)).1, ((z0, z1)).2]).bind fun t19 =>
      (Pl.cat v_found16 t19).bind fun v_found20 => some (v_found20)) fun r => r = s ++ blk x0 z0 x1 z1 p q := by
    intro k m p q s hp hq e1 e2 e3 hl
    have ex : ∀ t, Smn 30 t → p_on_edge p q 0 t z0 z1 = some (eX z0 z1 p q t) := fun t ht => edge_g (axis := 0) rfl rfl rfl rfl hp.1 hq.1 hp.2.2 hq.2.2 ht hp.2.1 hq.2.1 hz0 hz1
    have ez : ∀ t, Smn 30 t → p_on_edge p q 2 t x0 x1 = some (eZ x0 x1 p q t) := fun t ht => edge_g (axis := 2) rfl rfl rfl rfl hp.2.2 hq.2.2 hp.1 hq.1 ht hp.2.1 hq.2.1 hx0 hx1
    refine Tot.of e1 (Tot.of e2 (Tot.of e3 ?_))
    refine Tot.bind (Ψ := fun j => j = s ++ vtx x0 z0 x1 z1 p) ?_ ?_
    · refine Tot.ite (fun c => ?_) fun c => ⟨_, rfl, ?_⟩
      · exact Tot.of (app_t (by unfold szl; omega)) ⟨_, rfl, by unfold vtx; rw [if_pos c]⟩
      · unfold vtx
        rw [if_neg (by rw [c]; decide), List.append_nil]
    rintro _ rfl
    have vl : (vtx x0 z0 x1 z1 p).length ≤ 1 := by unfold vtx; split <;> simp
    refine Tot.of (comp2 (x := eX z0 z1 p q x0) (y := eX z0 z1 p q x1) (by show (p_on_edge p q 0 x0 z0 z1).bind _ = _; rw [ex x0 hx0]; rfl) (by show (p_on_edge p q 0 x1 z0 z1).bind _ = _; rw [ex x1 hx1]; rfl)) ?_
    refine Tot.of (cat_t (by rw [List.length_append]; show _ + 2 < szl; unfold szl; omega)) ?_
    refine Tot.of (comp2 (x := eZ x0 x1 p q z0) (y := eZ x0 x1 p q z1) (by show (p_on_edge p q 2 z0 x0 x1).bind _ = _; rw [ez z0 hz0]; rfl) (by show (p_on_edge p q 2 z1 x0 x1).bind _ = _; rw [ez z1 hz1]; rfl)) ?_
    refine Tot.of (cat_t (by rw [List.length_append, List.length_append]; show _ + 2 + 2 < szl; unfold szl; omega)) ⟨_, rfl, ?_⟩
    unfold blk
    simp only [List.append_assoc]
  have l1 := blk_len x0 z0 x1 z1 p0 p1
  have l2 := blk_len x0 z0 x1 z1 p1 p2
  have l3 := blk_len x0 z0 x1 z1 p2 p0
  unfold p_heights
  refine Tot.of (normal_t h0 h1 h2) ?_
  rw [rng3O]
  refine Tot.nm ?_
  refine Tot.for3 (blk x0 z0 x1 z1 p0 p1) (blk x0 z0 x1 z1 p0 p1 ++ blk x0 z0 x1 z1 p1 p2) (blk x0 z0 x1 z1 p0 p1 ++ blk x0 z0 x1 z1 p1 p2 ++ blk x0 z0 x1 z1 p2 p0) ?_ ?_ ?_ ?_
  · exact body 0 1 p0 p1 [] h0 h1 rfl rfl rfl (by decide)
  · exact body 1 2 p1 p2 _ h1 h2 rfl rfl rfl (by omega)
  · exact body 2 0 p2 p0 _ h2 h0 rfl rfl rfl (by rw [List.length_append]; omega)
  generalize hB : blk x0 z0 x1 z1 p0 p1 ++ blk x0 z0 x1 z1 p1 p2 ++ blk x0 z0 x1 z1 p2 p0 = B
  have lB : B.length ≤ 15 := by rw [← hB, List.length_append, List.length_append]; omega
  obtain ⟨c00, e00, f00⟩ := corner_t h0 h1 h2 hx0 hz0
  obtain ⟨c01, e01, f01⟩ := corner_t h0 h1 h2 hx0 hz1
  obtain ⟨c10, e10, f10⟩ := corner_t h0 h1 h2 hx1 hz0
  obtain ⟨c11, e11, f11⟩ := corner_t h0 h1 h2 hx1 hz1
  have loop : Pl.forN (fun (x23 : Int) (s21 : (List (Option (Int × Int)))) => (Pl.comp (fun (x24 : Int) => (some true)) (fun (x24 : Int) => ((p_at_corner [p0, p1, p2] (up3 p0 p1 p2) x23 x24).bind fun t25 => some t25)) [((z0, z1)).1, ((z0, z1)).2]).bind fun t26 => (Pl.cat s21 t26).bind fun v_found27 => some (v_found27)) [((x0, x1)).1, ((x0, x1)).2] B = some (B ++ [c00, c01] ++ [c10, c11]) := by
    have s1 := comp2 (f := fun (x24 : Int) => ((p_at_corner [p0, p1, p2] (up3 p0 p1 p2) x0 x24).bind fun t25 => some t25)) (a := z0) (b := z1) (x := c00) (y := c01) (by show (p_at_corner _ _ x0 z0).bind _ = _; rw [e00]; rfl) (by show (p_at_corner _ _ x0 z1).bind _ = _; rw [e01]; rfl)
    have s2 := comp2 (f := fun (x24 : Int) => ((p_at_corner [p0, p1, p2] (up3 p0 p1 p2) x1 x24).bind fun t25 => some t25)) (a := z0) (b := z1) (x := c10) (y := c11) (by show (p_at_corner _ _ x1 z0).bind _ = _; rw [e10]; rfl) (by show (p_at_corner _ _ x1 z1).bind _ = _; rw [e11]; rfl)
    simp only [Pl.forN]
    rw [s1]
    simp only [Option.bind_some]
    rw [cat_t (show B.length + [c00, c01].length < szl by show B.length + 2 < szl; unfold szl; omega)]
    simp only [Option.bind_some]
    rw [s2]
    simp only [Option.bind_some]
    rw [cat_t (show (B ++ [c00, c01]).length + [c10, c11].length < szl by rw [List.length_append]; show B.length + 2 + 2 < szl; unfold szl; omega)]
    rfl
  refine Tot.of loop ?_
  have lA : (B ++ [c00, c01] ++ [c10, c11]).length ≤ 19 := by
    rw [List.length_append, List.length_append]
    show B.length + 2 + 2 ≤ 19
    omega
  refine Tot.of (comp_e (fun x => x.isSome) (fun x : Option (Int × Int) => x.getD (0, 0)) (by unfold szl; omega) fun x hx => ⟨rfl, fun h => by cases x with | none => cases h | some v => rfl⟩) ⟨_, rfl, c00, c01, c10, c11, f00, f01, f10, f11, fun r => ?_, ?_⟩
  · unfold allC
    rw [hB, List.mem_map]
    constructor
    · rintro ⟨x, hx, e⟩
      rw [List.mem_filter] at hx
      cases x with
      | none => cases hx.2
      | some v =>
        have e : v = r := e
        rw [← e]
        exact hx.1
    · intro h
      exact ⟨some r, List.mem_filter.mpr ⟨h, rfl⟩, rfl⟩
  · rw [List.length_map]
    have := List.length_filter_le (fun x : Option (Int × Int) => x.isSome) (B ++ [c00, c01] ++ [c10, c11])
    omega
/-! ### what the points are -/
structure At (T : Rc) (e : Wt.A3) (p : P3) : Prop where
  m : e ∈ E3
  x : dot T.xs e = p.1
  y : dot T.ys e = p.2.1
  z : dot T.zs e = p.2.2
  o : dot one e = 1
theorem at0 (p0 p1 p2 : P3) (x0 z0 x1 z1 : Int) : At (rc p0 p1 p2 x0 z0 x1 z1) e0 p0 := ⟨by unfold E3; simp, (dot_e _).1, (dot_e _).1, (dot_e _).1, rfl⟩
theorem at1 (p0 p1 p2 : P3) (x0 z0 x1 z1 : Int) : At (rc p0 p1 p2 x0 z0 x1 z1) e1 p1 := ⟨by unfold E3; simp, (dot_e _).2.1, (dot_e _).2.1, (dot_e _).2.1, rfl⟩
theorem at2 (p0 p1 p2 : P3) (x0 z0 x1 z1 : Int) : At (rc p0 p1 p2 x0 z0 x1 z1) e2 p2 := ⟨by unfold E3; simp, (dot_e _).2.2, (dot_e _).2.2, (dot_e _).2.2, rfl⟩
def Hit (T : Rc) (n d : Int) : Prop := 0 < d ∧ ∃ u, Feas T u ∧ n * dot one u = d * dot T.ys u
theorem vtx_iff {T : Rc} {e : Wt.A3} {p : P3} (A : At T e p) (o : Option (Int × Int)) : o ∈ vtx T.x0 T.z0 T.x1 T.z1 p ↔ Feas T e ∧ o = some (p.2.1, 1) := by
  have k : ((((decide (T.x0 ≤ p.1)) && (decide (p.1 ≤ T.x1))) && ((decide (T.z0 ≤ p.2.2)) && (decide (p.2.2 ≤ T.z1)))) = true) ↔ Feas T e := by
    rw [feas_iff, A.x, A.z, A.o]
    simp only [Bool.and_eq_true, decide_eq_true_eq, Int.mul_one]
    have hn := nn_e A.m
    rw [A.o] at hn
    constructor
    · intro h
      exact ⟨hn, h⟩
    · intro h
      exact h.2
  unfold vtx
  by_cases c : ((((decide (T.x0 ≤ p.1)) && (decide (p.1 ≤ T.x1))) && ((decide (T.z0 ≤ p.2.2)) && (decide (p.2.2 ≤ T.z1)))) = true)
  · rw [if_pos c, List.mem_singleton]
    exact ⟨fun h => ⟨k.mp c, h⟩, fun h => h.2⟩
  · rw [if_neg c]
    exact ⟨(fun h => nomatch h), fun h => absurd (k.mpr h.1) c⟩
theorem mixf {T : Rc} {e f : Wt.A3} {p q : P3} (A : At T e p) (B : At T f q) (a b : Int) : dot T.xs (mix a b e f) = a * p.1 + b * q.1 ∧ dot T.ys (mix a b e f) = a * p.2.1 + b * q.2.1 ∧ dot T.zs (mix a b e f) = a * p.2.2 + b * q.2.2 ∧ dot one (mix a b e f) = a + b := by
  rw [dot_mix, dot_mix, dot_mix, dot_mix, A.x, A.y, A.z, A.o, B.x, B.y, B.z, B.o]
  omega
theorem between {l h t d : Int} (hd : 0 < d) (h1 : l ≤ t) (h2 : t ≤ h) : l * d ≤ t * d ∧ t * d ≤ h * d := ⟨Int.mul_le_mul_of_nonneg_right h1 (by omega), Int.mul_le_mul_of_nonneg_right h2 (by omega)⟩
theorem eX_sound {T : Rc} {e f : Wt.A3} {p q : P3} (A : At T e p) (B : At T f q) {t n d : Int} (ht : T.x0 ≤ t ∧ t ≤ T.x1) (h : eX T.z0 T.z1 p q t = some (n, d)) : Hit T n d := by
  obtain ⟨a, b, hd, ha, hb, hs, e1, ⟨e2, e3⟩, e4⟩ := edge_sound h
  obtain ⟨m1, m2, m3, m4⟩ := mixf A B a b
  refine ⟨hd, mix a b e f, feas_iff.mpr ⟨⟨(nn_e A.m).1.mix (nn_e B.m).1 ha hb, by rw [m4]; omega⟩, ?_, ?_⟩, ?_⟩
  · rw [m1, m4, hs, e1]
    exact between hd ht.1 ht.2
  · rw [m3, m4, hs]
    exact ⟨e2, e3⟩
  · rw [m4, m2, hs, e4, Int.mul_comm]
theorem eZ_sound {T : Rc} {e f : Wt.A3} {p q : P3} (A : At T e p) (B : At T f q) {t n d : Int} (ht : T.z0 ≤ t ∧ t ≤ T.z1) (h : eZ T.x0 T.x1 p q t = some (n, d)) : Hit T n d := by
  obtain ⟨a, b, hd, ha, hb, hs, e1, ⟨e2, e3⟩, e4⟩ := edge_sound h
  obtain ⟨m1, m2, m3, m4⟩ := mixf A B a b
  refine ⟨hd, mix a b e f, feas_iff.mpr ⟨⟨(nn_e A.m).1.mix (nn_e B.m).1 ha hb, by rw [m4]; omega⟩, ?_, ?_⟩, ?_⟩
  · rw [m1, m4, hs]
    exact ⟨e2, e3⟩
  · rw [m3, m4, hs, e1]
    exact between hd ht.1 ht.2
  · rw [m4, m2, hs, e4, Int.mul_comm]
theorem eX_complete {T : Rc} {e f : Wt.A3} {p q : P3} (A : At T e p) (B : At T f q) {t a b : Int} (ha : 0 ≤ a) (hb : 0 ≤ b) (hne : p.1 ≠ q.1) (fu : Feas T (mix a b e f)) (hx : dot T.xs (mix a b e f) = t * dot one (mix a b e f)) : ∃ n d, eX T.z0 T.z1 p q t = some (n, d) ∧ n * dot one (mix a b e f) = d * dot T.ys (mix a b e f) := by
  obtain ⟨m1, m2, m3, m4⟩ := mixf A B a b
  have fi := feas_iff.mp fu
  rw [m1, m4] at hx
  rw [m3, m4] at fi
  rw [m2, m4]
  exact edge_complete ha hb fi.1.2 hne hx fi.2.2.1 fi.2.2.2
theorem eZ_complete {T : Rc} {e f : Wt.A3} {p q : P3} (A : At T e p) (B : At T f q) {t a b : Int} (ha : 0 ≤ a) (hb : 0 ≤ b) (hne : p.2.2 ≠ q.2.2) (fu : Feas T (mix a b e f)) (hz : dot T.zs (mix a b e f) = t * dot one (mix a b e f)) : ∃ n d, eZ T.x0 T.x1 p q t = some (n, d) ∧ n * dot one (mix a b e f) = d * dot T.ys (mix a b e f) := by
  obtain ⟨m1, m2, m3, m4⟩ := mixf A B a b
  have fi := feas_iff.mp fu
  rw [m3, m4] at hz
  rw [m1, m4] at fi
  rw [m2, m4]
  exact edge_complete ha hb fi.1.2 hne hz fi.2.1.1 fi.2.1.2
theorem mix_comm (a b : Int) (u v : Wt.A3) : mix a b u v = mix b a v u := by
  unfold mix
  rw [Int.add_comm (a * u.1), Int.add_comm (a * u.2.1), Int.add_comm (a * u.2.2)]
theorem corn_sound {p0 p1 p2 : P3} {x0 z0 x1 z1 x z n d : Int} (hx : x0 ≤ x ∧ x ≤ x1) (hz : z0 ≤ z ∧ z ≤ z1) (h : CF p0 p1 p2 x z (some (n, d))) : Hit (rc p0 p1 p2 x0 z0 x1 z1) n d := by
  rcases h with ⟨h, _⟩ | ⟨h, hu, hm⟩
  · cases h
  obtain ⟨a0, b0, c0⟩ := p0
  obtain ⟨a1, b1, c1⟩ := p1
  obtain ⟨a2, b2, c2⟩ := p2
  have i1 : sd (a0, b0, c0) (a1, b1, c1) x z + sd (a1, b1, c1) (a2, b2, c2) x z + sd (a2, b2, c2) (a0, b0, c0) x z = -(up3 (a0, b0, c0) (a1, b1, c1) (a2, b2, c2)).2.1 := by
    unfold sd up3; dsimp only; grind
  have i2 : sd (a1, b1, c1) (a2, b2, c2) x z * a0 + sd (a2, b2, c2) (a0, b0, c0) x z * a1 + sd (a0, b0, c0) (a1, b1, c1) x z * a2 = -(x * (up3 (a0, b0, c0) (a1, b1, c1) (a2, b2, c2)).2.1) := by
    unfold sd up3; dsimp only; grind
  have i3 : sd (a1, b1, c1) (a2, b2, c2) x z * c0 + sd (a2, b2, c2) (a0, b0, c0) x z * c1 + sd (a0, b0, c0) (a1, b1, c1) x z * c2 = -(z * (up3 (a0, b0, c0) (a1, b1, c1) (a2, b2, c2)).2.1) := by
    unfold sd up3; dsimp only; grind
  have i4 : sd (a1, b1, c1) (a2, b2, c2) x z * b0 + sd (a2, b2, c2) (a0, b0, c0) x z * b1 + sd (a0, b0, c0) (a1, b1, c1) x z * b2 = -cornN (a0, b0, c0) (a1, b1, c1) (a2, b2, c2) x z := by
    unfold sd cornN up3; dsimp only; grind
  generalize sd (a0, b0, c0) (a1, b1, c1) x z = s0 at *
  generalize sd (a1, b1, c1) (a2, b2, c2) x z = s1 at *
  generalize sd (a2, b2, c2) (a0, b0, c0) x z = s2 at *
  generalize (up3 (a0, b0, c0) (a1, b1, c1) (a2, b2, c2)).2.1 = D at *
  generalize cornN (a0, b0, c0) (a1, b1, c1) (a2, b2, c2) x z = N at *
  rw [Option.some.injEq] at h
  unfold mixed at hm
  have mk : ∀ (w : Wt.A3) (E : Int), 0 < E → nn w → w.1 + w.2.1 + w.2.2 = E → w.1 * a0 + w.2.1 * a1 + w.2.2 * a2 = x * E → w.1 * c0 + w.2.1 * c1 + w.2.2 * c2 = z * E → w.1 * b0 + w.2.1 * b1 + w.2.2 * b2 = n → d = E → Hit (rc (a0, b0, c0) (a1, b1, c1) (a2, b2, c2) x0 z0 x1 z1) n d := by
    intro w E hE hw k1 k2 k3 k4 k5
    have d1 : dot one w = E := by rw [dot_one]; exact k1
    have d2 : dot (rc (a0, b0, c0) (a1, b1, c1) (a2, b2, c2) x0 z0 x1 z1).xs w = x * E := by unfold dot rc; dsimp only; grind
    have d3 : dot (rc (a0, b0, c0) (a1, b1, c1) (a2, b2, c2) x0 z0 x1 z1).zs w = z * E := by unfold dot rc; dsimp only; grind
    have d4 : dot (rc (a0, b0, c0) (a1, b1, c1) (a2, b2, c2) x0 z0 x1 z1).ys w = n := by unfold dot rc; dsimp only; grind
    refine ⟨by omega, w, feas_iff.mpr ⟨⟨hw, by omega⟩, ?_, ?_⟩, by rw [d1, d4, k5, Int.mul_comm]⟩
    · rw [d1, d2]; exact between hE hx.1 hx.2
    · rw [d1, d3]; exact between hE hz.1 hz.2
  by_cases c : D < 0
  · have e : p_positive N D = (-N, -D) := by unfold p_positive; rw [if_pos (decide_eq_true c)]
    rw [e, Prod.mk.injEq] at h
    refine mk (s1, s2, s0) (-D) (by omega) ⟨by show 0 ≤ s1; omega, by show 0 ≤ s2; omega, by show 0 ≤ s0; omega⟩ (by show s1 + s2 + s0 = -D; omega) (by show s1 * a0 + s2 * a1 + s0 * a2 = _; rw [i2]; grind) (by show s1 * c0 + s2 * c1 + s0 * c2 = _; rw [i3]; grind) (by show s1 * b0 + s2 * b1 + s0 * b2 = _; rw [i4]; omega) (by omega)
  · have e : p_positive N D = (N, D) := by unfold p_positive; rw [if_neg (by rw [decide_eq_true_eq]; exact c)]
    rw [e, Prod.mk.injEq] at h
    refine mk (-s1, -s2, -s0) D (by omega) ⟨by show 0 ≤ -s1; omega, by show 0 ≤ -s2; omega, by show 0 ≤ -s0; omega⟩ (by show -s1 + -s2 + -s0 = D; omega) (by show -s1 * a0 + -s2 * a1 + -s0 * a2 = _; grind) (by show -s1 * c0 + -s2 * c1 + -s0 * c2 = _; grind) (by show -s1 * b0 + -s2 * b1 + -s0 * b2 = _; grind) (by omega)
theorem corn_complete {p0 p1 p2 : P3} {x0 z0 x1 z1 x z : Int} {r : Option (Int × Int)} {u : Wt.A3} (h : CF p0 p1 p2 x z r) (hn : nn u) (hp : 0 < dot one u) (hx : dot (rc p0 p1 p2 x0 z0 x1 z1).xs u = x * dot one u) (hz : dot (rc p0 p1 p2 x0 z0 x1 z1).zs u = z * dot one u) (hd : det (rc p0 p1 p2 x0 z0 x1 z1).xs (rc p0 p1 p2 x0 z0 x1 z1).zs one ≠ 0) : ∃ n d, r = some (n, d) ∧ n * dot one u = d * dot (rc p0 p1 p2 x0 z0 x1 z1).ys u := by
  obtain ⟨a0, b0, c0⟩ := p0
  obtain ⟨a1, b1, c1⟩ := p1
  obtain ⟨a2, b2, c2⟩ := p2
  obtain ⟨u0, u1, u2⟩ := u
  unfold CF at h
  have eW : dot one (u0, u1, u2) = u0 + u1 + u2 := dot_one _
  have eX : dot (rc (a0, b0, c0) (a1, b1, c1) (a2, b2, c2) x0 z0 x1 z1).xs (u0, u1, u2) = a0 * u0 + a1 * u1 + a2 * u2 := rfl
  have eZ : dot (rc (a0, b0, c0) (a1, b1, c1) (a2, b2, c2) x0 z0 x1 z1).zs (u0, u1, u2) = c0 * u0 + c1 * u1 + c2 * u2 := rfl
  have eY : dot (rc (a0, b0, c0) (a1, b1, c1) (a2, b2, c2) x0 z0 x1 z1).ys (u0, u1, u2) = b0 * u0 + b1 * u1 + b2 * u2 := rfl
  have eD : det (rc (a0, b0, c0) (a1, b1, c1) (a2, b2, c2) x0 z0 x1 z1).xs (rc (a0, b0, c0) (a1, b1, c1) (a2, b2, c2) x0 z0 x1 z1).zs one = -(up3 (a0, b0, c0) (a1, b1, c1) (a2, b2, c2)).2.1 := by
    unfold det rc one up3; dsimp only; grind
  rw [eW] at hx hz hp
  rw [eX] at hx
  rw [eZ] at hz
  rw [eD] at hd
  rw [eW, eY]
  have j0 : sd (a0, b0, c0) (a1, b1, c1) x z * (u0 + u1 + u2) = -(u2 * (up3 (a0, b0, c0) (a1, b1, c1) (a2, b2, c2)).2.1) := by
    have : sd (a0, b0, c0) (a1, b1, c1) x z * (u0 + u1 + u2) = (a1 - a0) * (z * (u0 + u1 + u2) - c0 * (u0 + u1 + u2)) - (c1 - c0) * (x * (u0 + u1 + u2) - a0 * (u0 + u1 + u2)) := by unfold sd; dsimp only; grind
    rw [this, ← hx, ← hz]; unfold up3; dsimp only; grind
  have j1 : sd (a1, b1, c1) (a2, b2, c2) x z * (u0 + u1 + u2) = -(u0 * (up3 (a0, b0, c0) (a1, b1, c1) (a2, b2, c2)).2.1) := by
    have : sd (a1, b1, c1) (a2, b2, c2) x z * (u0 + u1 + u2) = (a2 - a1) * (z * (u0 + u1 + u2) - c1 * (u0 + u1 + u2)) - (c2 - c1) * (x * (u0 + u1 + u2) - a1 * (u0 + u1 + u2)) := by unfold sd; dsimp only; grind
    rw [this, ← hx, ← hz]; unfold up3; dsimp only; grind
  have j2 : sd (a2, b2, c2) (a0, b0, c0) x z * (u0 + u1 + u2) = -(u1 * (up3 (a0, b0, c0) (a1, b1, c1) (a2, b2, c2)).2.1) := by
    have : sd (a2, b2, c2) (a0, b0, c0) x z * (u0 + u1 + u2) = (a0 - a2) * (z * (u0 + u1 + u2) - c2 * (u0 + u1 + u2)) - (c0 - c2) * (x * (u0 + u1 + u2) - a2 * (u0 + u1 + u2)) := by unfold sd; dsimp only; grind
    rw [this, ← hx, ← hz]; unfold up3; dsimp only; grind
  have j3 : cornN (a0, b0, c0) (a1, b1, c1) (a2, b2, c2) x z * (u0 + u1 + u2) = (up3 (a0, b0, c0) (a1, b1, c1) (a2, b2, c2)).2.1 * (b0 * u0 + b1 * u1 + b2 * u2) := by
    have : cornN (a0, b0, c0) (a1, b1, c1) (a2, b2, c2) x z * (u0 + u1 + u2) = b0 * (up3 (a0, b0, c0) (a1, b1, c1) (a2, b2, c2)).2.1 * (u0 + u1 + u2) - (up3 (a0, b0, c0) (a1, b1, c1) (a2, b2, c2)).1 * (x * (u0 + u1 + u2) - a0 * (u0 + u1 + u2)) - (up3 (a0, b0, c0) (a1, b1, c1) (a2, b2, c2)).2.2 * (z * (u0 + u1 + u2) - c0 * (u0 + u1 + u2)) := by unfold cornN; dsimp only; grind
    rw [this, ← hx, ← hz]; unfold up3; dsimp only; grind
  generalize (up3 (a0, b0, c0) (a1, b1, c1) (a2, b2, c2)).2.1 = D at *
  have hu : D ≠ 0 := by omega
  obtain ⟨n0, n1, n2⟩ := hn
  have n0 : 0 ≤ u0 := n0
  have n1 : 0 ≤ u1 := n1
  have n2 : 0 ≤ u2 := n2
  generalize hS : u0 + u1 + u2 = S at *
  have sg : ∀ s v : Int, 0 ≤ v → s * S = -(v * D) → (D < 0 → 0 ≤ s) ∧ (0 < D → s ≤ 0) := fun s v hv e => by
    constructor
    · intro c
      have := Int.mul_nonpos_of_nonneg_of_nonpos hv (show D ≤ 0 by omega)
      exact Int.nonneg_of_mul_nonneg_left (show 0 ≤ s * S by omega) hp
    · intro c
      have := Int.mul_nonneg hv (show 0 ≤ D by omega)
      have k : 0 ≤ (-s) * S := by rw [Int.neg_mul]; omega
      have := Int.nonneg_of_mul_nonneg_left k hp
      omega
  have g0 := sg _ _ n2 j0
  have g1 := sg _ _ n0 j1
  have g2 := sg _ _ n1 j2
  rcases h with ⟨_, h | h⟩ | ⟨h, _, _⟩
  · exact absurd h hu
  · exfalso
    unfold mixed at h
    omega
  · unfold p_positive at h
    by_cases c : D < 0
    · rw [if_pos (decide_eq_true c)] at h
      exact ⟨_, _, h, by rw [Int.neg_mul, Int.neg_mul, j3]⟩
    · rw [if_neg (by rw [decide_eq_true_eq]; exact c)] at h
      exact ⟨_, _, h, j3⟩
theorem corn_b {p0 p1 p2 : P3} (h0 : SP p0) (h1 : SP p1) (h2 : SP p2) {x z : Int} (hx : Smn 30 x) (hz : Smn 30 z) {n d : Int} (h : CF p0 p1 p2 x z (some (n, d))) : Smn 200 n ∧ Smn 200 d := by
  rcases h with ⟨h, _⟩ | ⟨h, _, _⟩
  · cases h
  · have := pos_b (cornN_b h0 h1 h2 hx hz) (up_b h0 h1 h2).2.1
    rw [Option.some.injEq] at h
    rw [← h] at this
    exact ⟨this.1, this.2.mono (by decide)⟩
end W

set_option Elab.async false
set_option linter.all false
set_option maxRecDepth 100000
set_option maxHeartbeats 1000000
namespace W
open PySem L2 Mi Wt
theorem cutL_tail {α : Type} (x : α) (xs : List α) : N.cutL (x :: xs) (some 1) none = xs := by
  unfold N.cutL
  have e : HT.sIx (x :: xs).length 0 (some 1) = 1 := by
    have := HT.sIx_nat (x :: xs).length 0 1
    rw [show HT.sIx (x :: xs).length 0 (some 1) = min 1 (x :: xs).length from this, List.length_cons]
    omega
  rw [e]
  show (xs.take ((x :: xs).length - 1)) = xs
  rw [List.length_cons, Nat.add_sub_cancel, List.take_length]
def ngy (T : Rc) : Wt.A3 := mix (-1) 0 T.ys one
theorem dot_ngy (T : Rc) (w : Wt.A3) : dot (ngy T) w = -dot T.ys w := by
  unfold ngy
  rw [mix_dot]
  omega
/-- the least and the greatest height -/
def Ext (T : Rc) (r : Option ((Int × Int) × (Int × Int))) : Prop := (r = none ∧ ∀ w, ¬ Feas T w) ∨ ∃ lo hi, r = some (lo, hi) ∧ Min T T.ys lo.1 lo.2 ∧ Min T (ngy T) (-hi.1) hi.2
theorem neg_min {T : Rc} {n d : Int} (hd : 0 < d) (h1 : ∃ u, Feas T u ∧ n * dot one u = d * dot T.ys u) (h2 : ∀ w, Feas T w → d * dot T.ys w ≤ n * dot one w) : Min T (ngy T) (-n) d := by
  refine ⟨hd, ?_, fun w fw => ?_⟩
  · obtain ⟨u, fu, eu⟩ := h1
    exact ⟨u, fu, by rw [dot_ngy, Int.neg_mul, eu, Int.mul_neg]⟩
  · have := h2 w fw
    rw [dot_ngy, Int.neg_mul, Int.mul_neg]
    omega
theorem lext_ext {p0 p1 p2 : P3} {x0 z0 x1 z1 : Int} (h0 : lowP p0) (h1 : lowP p1) (h2 : lowP p2) (hx0 : low4 x0) (hz0 : low4 z0) (hx1 : low4 x1) (hz1 : low4 z1) :
    Tot (p_law_extent [p0, p1, p2] x0 z0 x1 z1) fun r => (r = none ∧ ∀ w, ¬ Feas (rc p0 p1 p2 x0 z0 x1 z1) w) ∨ ∃ lo hi, r = some [lo, hi] ∧ (Smn 1200 lo.1 ∧ Smn 1200 lo.2 ∧ Smn 1200 hi.1 ∧ Smn 1200 hi.2) ∧ Min (rc p0 p1 p2 x0 z0 x1 z1) (rc p0 p1 p2 x0 z0 x1 z1).ys lo.1 lo.2 ∧ Min (rc p0 p1 p2 x0 z0 x1 z1) (ngy (rc p0 p1 p2 x0 z0 x1 z1)) (-hi.1) hi.2 := by
  obtain ⟨_, pb, _⟩ := over_t h0 h1 h2 hx0 hz0 hx1 hz1
  refine (lext_t h0 h1 h2 hx0 hz0 hx1 hz1).imp fun r q => ?_
  generalize rc p0 p1 p2 x0 z0 x1 z1 = T at *
  rcases q with ⟨rfl, e⟩ | ⟨lo, hlo, hi, hhi, rfl, q⟩
  · refine .inl ⟨rfl, fun w fw => ?_⟩
    have := poly_gen (T := T) (Φ := mix (-1) 0 one one) (by rw [e]; intro u hu; cases hu) fw
    rw [mix_dot] at this
    have := fw.1.2
    omega
  · have fl := poly_feas hlo
    have fh := poly_feas hhi
    have bl := pb lo hlo
    have bh := pb hi hhi
    refine .inr ⟨_, _, rfl, ⟨bl.2.1, bl.2.2.2, bh.2.1, bh.2.2.2⟩, ⟨fl.1.2, ⟨lo, fl, Int.mul_comm _ _⟩, fun w fw => ?_⟩, neg_min fh.1.2 ⟨hi, fh, Int.mul_comm _ _⟩ fun w fw => ?_⟩
    · have := poly_gen (T := T) (Φ := mix (dot one lo) (-dot T.ys lo) T.ys one) (fun u hu => ?_) fw
      · rw [mix_dot] at this
        show dot T.ys lo * dot one w ≤ dot one lo * dot T.ys w
        have e : -dot T.ys lo * dot one w = -(dot T.ys lo * dot one w) := Int.neg_mul _ _
        omega
      · rw [mix_dot]
        have := (q u hu).1
        have e : -dot T.ys lo * dot one u = -(dot T.ys lo * dot one u) := Int.neg_mul _ _
        have e2 : dot one lo * dot T.ys u = dot T.ys u * dot one lo := Int.mul_comm _ _
        omega
    · have := poly_gen (T := T) (Φ := mix (-dot one hi) (dot T.ys hi) T.ys one) (fun u hu => ?_) fw
      · rw [mix_dot] at this
        show dot one hi * dot T.ys w ≤ dot T.ys hi * dot one w
        have e : -dot one hi * dot T.ys w = -(dot one hi * dot T.ys w) := Int.neg_mul _ _
        omega
      · rw [mix_dot]
        have := (q u hu).2
        have e : -dot one hi * dot T.ys u = -(dot one hi * dot T.ys u) := Int.neg_mul _ _
        have e2 : dot one hi * dot T.ys u = dot T.ys u * dot one hi := Int.mul_comm _ _
        omega
theorem less_t {n : Nat} (hn : n ≤ 2000) {a b : Int × Int} (a1 : Smn n a.1) (a2 : Smn n a.2) (b1 : Smn n b.1) (b2 : Smn n b.2) : p_less a b = some (decide (a.1 * b.2 < b.1 * a.2)) := by
  unfold p_less
  rw [mul_t a1 b2 (by unfold bigN; omega) (by unfold bigN; omega), mul_t b1 a2 (by unfold bigN; omega) (by unfold bigN; omega)]
  rfl
theorem ext_t {p0 p1 p2 : P3} {x0 z0 x1 z1 : Int} (h0 : lowP p0) (h1 : lowP p1) (h2 : lowP p2) (hx0 : low4 x0) (hz0 : low4 z0) (hx1 : low4 x1) (hz1 : low4 z1) (rx : x0 < x1) (rz : z0 < z1) :
    Tot (p_extent [p0, p1, p2] x0 z0 x1 z1) fun r => (r = none ∧ ∀ w, ¬ Feas (rc p0 p1 p2 x0 z0 x1 z1) w) ∨ ∃ lo hi, r = some (lo, hi) ∧ (Smn 200 lo.1 ∧ Smn 200 lo.2 ∧ Smn 200 hi.1 ∧ Smn 200 hi.2) ∧ Min (rc p0 p1 p2 x0 z0 x1 z1) (rc p0 p1 p2 x0 z0 x1 z1).ys lo.1 lo.2 ∧ Min (rc p0 p1 p2 x0 z0 x1 z1) (ngy (rc p0 p1 p2 x0 z0 x1 z1)) (-hi.1) hi.2 := by
  have s0 := low4.SP h0
  have s1 := low4.SP h1
  have s2 := low4.SP h2
  obtain ⟨R, eR, c00, c01, c10, c11, f00, f01, f10, f11, hR, hl⟩ := heights_t s0 s1 s2 hx0.s hz0.s hx1.s hz1.s
  have A0 := at0 p0 p1 p2 x0 z0 x1 z1
  have A1 := at1 p0 p1 p2 x0 z0 x1 z1
  have A2 := at2 p0 p1 p2 x0 z0 x1 z1
  have o1 : Smn 200 (1 : Int) := by unfold Smn; decide
  -- each point is a height over the rectangle, of a moderate size
  have blkS : ∀ {e f : Wt.A3} {p q : P3}, At (rc p0 p1 p2 x0 z0 x1 z1) e p → At (rc p0 p1 p2 x0 z0 x1 z1) f q → SP p → SP q → ∀ n d, some (n, d) ∈ blk x0 z0 x1 z1 p q → Hit (rc p0 p1 p2 x0 z0 x1 z1) n d ∧ Smn 200 n ∧ Smn 200 d := by
    intro e f p q A B sp sq n d h
    unfold blk at h
    simp only [List.mem_append, List.mem_cons, List.not_mem_nil, or_false] at h
    rcases h with (h | h | h) | h | h
    · obtain ⟨fe, e1⟩ := (vtx_iff A (some (n, d))).mp h
      rw [Option.some.injEq, Prod.mk.injEq] at e1
      obtain ⟨rfl, rfl⟩ := e1
      exact ⟨⟨by decide, e, fe, by rw [A.o, A.y, Int.mul_comm]⟩, sp.2.1.mono (by decide), o1⟩
    · exact ⟨eX_sound A B ⟨Int.le_refl _, by show x0 ≤ x1; omega⟩ h.symm, edge_b sp.1 sq.1 hx0.s sp.2.1 sq.2.1 h.symm⟩
    · exact ⟨eX_sound A B ⟨by show x0 ≤ x1; omega, Int.le_refl _⟩ h.symm, edge_b sp.1 sq.1 hx1.s sp.2.1 sq.2.1 h.symm⟩
    · exact ⟨eZ_sound A B ⟨Int.le_refl _, by show z0 ≤ z1; omega⟩ h.symm, edge_b sp.2.2 sq.2.2 hz0.s sp.2.1 sq.2.1 h.symm⟩
    · exact ⟨eZ_sound A B ⟨by show z0 ≤ z1; omega, Int.le_refl _⟩ h.symm, edge_b sp.2.2 sq.2.2 hz1.s sp.2.1 sq.2.1 h.symm⟩
  have snd : ∀ r ∈ R, Hit (rc p0 p1 p2 x0 z0 x1 z1) r.1 r.2 ∧ Smn 200 r.1 ∧ Smn 200 r.2 := by
    rintro ⟨n, d⟩ hr
    have h := (hR (n, d)).mp hr
    unfold allC at h
    rw [List.mem_append, List.mem_append, List.mem_append, List.mem_append] at h
    simp only [List.mem_cons, List.not_mem_nil, or_false] at h
    rcases h with (((h | h) | h) | h | h) | h | h
    · exact blkS A0 A1 s0 s1 n d h
    · exact blkS A1 A2 s1 s2 n d h
    · exact blkS A2 A0 s2 s0 n d h
    · rw [← h] at f00
      exact ⟨corn_sound ⟨Int.le_refl _, by omega⟩ ⟨Int.le_refl _, by omega⟩ f00, corn_b s0 s1 s2 hx0.s hz0.s f00⟩
    · rw [← h] at f01
      exact ⟨corn_sound ⟨Int.le_refl _, by omega⟩ ⟨by omega, Int.le_refl _⟩ f01, corn_b s0 s1 s2 hx0.s hz1.s f01⟩
    · rw [← h] at f10
      exact ⟨corn_sound ⟨by omega, Int.le_refl _⟩ ⟨Int.le_refl _, by omega⟩ f10, corn_b s0 s1 s2 hx1.s hz0.s f10⟩
    · rw [← h] at f11
      exact ⟨corn_sound ⟨by omega, Int.le_refl _⟩ ⟨by omega, Int.le_refl _⟩ f11, corn_b s0 s1 s2 hx1.s hz1.s f11⟩
  -- what stands in the blocks
  have inB : ∀ o, (o ∈ blk x0 z0 x1 z1 p0 p1 ∨ o ∈ blk x0 z0 x1 z1 p1 p2 ∨ o ∈ blk x0 z0 x1 z1 p2 p0) → ∀ r, o = some r → r ∈ R := fun o ho r e => by
    subst e
    refine (hR r).mpr ?_
    unfold allC
    simp only [List.mem_append]
    rcases ho with h | h | h <;> simp [h]
  have cpl : ∀ u, Feas (rc p0 p1 p2 x0 z0 x1 z1) u → Cand (rc p0 p1 p2 x0 z0 x1 z1) u → ∃ r ∈ R, r.1 * dot one u = r.2 * dot (rc p0 p1 p2 x0 z0 x1 z1).ys u := by
    have eXin : ∀ {p q : P3} {t : Int}, (t = x0 ∨ t = x1) → eX z0 z1 p q t ∈ blk x0 z0 x1 z1 p q := fun ht => by
      unfold blk
      rcases ht with rfl | rfl <;> simp
    have eZin : ∀ {p q : P3} {t : Int}, (t = z0 ∨ t = z1) → eZ x0 x1 p q t ∈ blk x0 z0 x1 z1 p q := fun ht => by
      unfold blk
      rcases ht with rfl | rfl <;> simp
    intro u fu cu
    cases cu with
    | v he =>
      have key : ∀ {p : P3}, At (rc p0 p1 p2 x0 z0 x1 z1) u p → (some (p.2.1, 1) ∈ vtx x0 z0 x1 z1 p → (p.2.1, 1) ∈ R) → ∃ r ∈ R, r.1 * dot one u = r.2 * dot (rc p0 p1 p2 x0 z0 x1 z1).ys u := fun {p} A hin =>
        ⟨_, hin ((vtx_iff A _).mpr ⟨fu, rfl⟩), by rw [A.o, A.y, Int.mul_comm]⟩
      have vin : ∀ {p q : P3} {o}, o ∈ vtx x0 z0 x1 z1 p → o ∈ blk x0 z0 x1 z1 p q := fun h => by unfold blk; simp [h]
      unfold E3 at he
      simp only [List.mem_cons, List.not_mem_nil, or_false] at he
      rcases he with rfl | rfl | rfl
      · exact key A0 fun h => inB _ (.inl (vin h)) _ rfl
      · exact key A1 fun h => inB _ (.inr (.inl (vin h))) _ rfl
      · exact key A2 fun h => inB _ (.inr (.inr (vin h))) _ rfl
    | @x a b s t hst ha hb pa pb =>
      have ht : t = x0 ∨ t = x1 := by rcases hst with h | h; exact .inl h.2; exact .inr h.2
      have hz : dot (rc p0 p1 p2 x0 z0 x1 z1).xs (mix (0 - dot (lin s (rc p0 p1 p2 x0 z0 x1 z1).xs t) b) (dot (lin s (rc p0 p1 p2 x0 z0 x1 z1).xs t) a) a b) = t * dot one (mix (0 - dot (lin s (rc p0 p1 p2 x0 z0 x1 z1).xs t) b) (dot (lin s (rc p0 p1 p2 x0 z0 x1 z1).xs t) a) a b) := by
        refine lin_zero (by rcases hst with h | h; exact .inl h.1; exact .inr h.1) ?_
        rw [dot_mix]
        grind
      have two : ∀ {e f : Wt.A3} {p q : P3}, At (rc p0 p1 p2 x0 z0 x1 z1) e p → At (rc p0 p1 p2 x0 z0 x1 z1) f q → (blk x0 z0 x1 z1 p q = blk x0 z0 x1 z1 p0 p1 ∨ blk x0 z0 x1 z1 p q = blk x0 z0 x1 z1 p1 p2 ∨ blk x0 z0 x1 z1 p q = blk x0 z0 x1 z1 p2 p0) → (a = e ∧ b = f ∨ a = f ∧ b = e) → ∃ r ∈ R, r.1 * dot one (mix (0 - dot (lin s (rc p0 p1 p2 x0 z0 x1 z1).xs t) b) (dot (lin s (rc p0 p1 p2 x0 z0 x1 z1).xs t) a) a b) = r.2 * dot (rc p0 p1 p2 x0 z0 x1 z1).ys (mix (0 - dot (lin s (rc p0 p1 p2 x0 z0 x1 z1).xs t) b) (dot (lin s (rc p0 p1 p2 x0 z0 x1 z1).xs t) a) a b) := by
        intro e f p q A B hin hab
        have ne : p.1 ≠ q.1 := fun c => by
          rw [dot_lin] at pa pb
          rcases hab with ⟨rfl, rfl⟩ | ⟨rfl, rfl⟩
          · rw [A.x, A.o, c] at pa; rw [B.x, B.o] at pb; omega
          · rw [B.x, B.o] at pa; rw [A.x, A.o, c] at pb; omega
        have fin : ∀ {n d : Int}, eX z0 z1 p q t = some (n, d) → (n, d) ∈ R := fun h => inB (eX z0 z1 p q t) (by rcases hin with h | h | h; exact .inl (h ▸ eXin ht); exact .inr (.inl (h ▸ eXin ht)); exact .inr (.inr (h ▸ eXin ht))) _ h
        generalize dot (lin s (rc p0 p1 p2 x0 z0 x1 z1).xs t) a = ca at *
        generalize dot (lin s (rc p0 p1 p2 x0 z0 x1 z1).xs t) b = cb at *
        rcases hab with ⟨rfl, rfl⟩ | ⟨rfl, rfl⟩
        · obtain ⟨n, d, h1, h2⟩ := eX_complete A B (by omega) (by omega) ne fu hz
          exact ⟨_, fin h1, h2⟩
        · rw [mix_comm] at fu hz ⊢
          obtain ⟨n, d, h1, h2⟩ := eX_complete A B (by omega) (by omega) ne fu hz
          exact ⟨_, fin h1, h2⟩
      have nab : a ≠ b := fun c => by rw [c] at pa; omega
      unfold E3 at ha hb
      simp only [List.mem_cons, List.not_mem_nil, or_false] at ha hb
      rcases ha with e1 | e1 | e1 <;> rcases hb with e2 | e2 | e2
      · exact absurd (e1.trans e2.symm) nab
      · exact two A0 A1 (.inl rfl) (.inl ⟨e1, e2⟩)
      · exact two A2 A0 (.inr (.inr rfl)) (.inr ⟨e1, e2⟩)
      · exact two A0 A1 (.inl rfl) (.inr ⟨e1, e2⟩)
      · exact absurd (e1.trans e2.symm) nab
      · exact two A1 A2 (.inr (.inl rfl)) (.inl ⟨e1, e2⟩)
      · exact two A2 A0 (.inr (.inr rfl)) (.inl ⟨e1, e2⟩)
      · exact two A1 A2 (.inr (.inl rfl)) (.inr ⟨e1, e2⟩)
      · exact absurd (e1.trans e2.symm) nab
    | @z a b s t hst ha hb pa pb =>
      have ht : t = z0 ∨ t = z1 := by rcases hst with h | h; exact .inl h.2; exact .inr h.2
      have hz : dot (rc p0 p1 p2 x0 z0 x1 z1).zs (mix (0 - dot (lin s (rc p0 p1 p2 x0 z0 x1 z1).zs t) b) (dot (lin s (rc p0 p1 p2 x0 z0 x1 z1).zs t) a) a b) = t * dot one (mix (0 - dot (lin s (rc p0 p1 p2 x0 z0 x1 z1).zs t) b) (dot (lin s (rc p0 p1 p2 x0 z0 x1 z1).zs t) a) a b) := by
        refine lin_zero (by rcases hst with h | h; exact .inl h.1; exact .inr h.1) ?_
        rw [dot_mix]
        grind
      have two : ∀ {e f : Wt.A3} {p q : P3}, At (rc p0 p1 p2 x0 z0 x1 z1) e p → At (rc p0 p1 p2 x0 z0 x1 z1) f q → (blk x0 z0 x1 z1 p q = blk x0 z0 x1 z1 p0 p1 ∨ blk x0 z0 x1 z1 p q = blk x0 z0 x1 z1 p1 p2 ∨ blk x0 z0 x1 z1 p q = blk x0 z0 x1 z1 p2 p0) → (a = e ∧ b = f ∨ a = f ∧ b = e) → ∃ r ∈ R, r.1 * dot one (mix (0 - dot (lin s (rc p0 p1 p2 x0 z0 x1 z1).zs t) b) (dot (lin s (rc p0 p1 p2 x0 z0 x1 z1).zs t) a) a b) = r.2 * dot (rc p0 p1 p2 x0 z0 x1 z1).ys (mix (0 - dot (lin s (rc p0 p1 p2 x0 z0 x1 z1).zs t) b) (dot (lin s (rc p0 p1 p2 x0 z0 x1 z1).zs t) a) a b) := by
        intro e f p q A B hin hab
        have ne : p.2.2 ≠ q.2.2 := fun c => by
          rw [dot_lin] at pa pb
          rcases hab with ⟨rfl, rfl⟩ | ⟨rfl, rfl⟩
          · rw [A.z, A.o, c] at pa; rw [B.z, B.o] at pb; omega
          · rw [B.z, B.o] at pa; rw [A.z, A.o, c] at pb; omega
        have fin : ∀ {n d : Int}, eZ x0 x1 p q t = some (n, d) → (n, d) ∈ R := fun h => inB (eZ x0 x1 p q t) (by rcases hin with h | h | h; exact .inl (h ▸ eZin ht); exact .inr (.inl (h ▸ eZin ht)); exact .inr (.inr (h ▸ eZin ht))) _ h
        generalize dot (lin s (rc p0 p1 p2 x0 z0 x1 z1).zs t) a = ca at *
        generalize dot (lin s (rc p0 p1 p2 x0 z0 x1 z1).zs t) b = cb at *
        rcases hab with ⟨rfl, rfl⟩ | ⟨rfl, rfl⟩
        · obtain ⟨n, d, h1, h2⟩ := eZ_complete A B (by omega) (by omega) ne fu hz
          exact ⟨_, fin h1, h2⟩
        · rw [mix_comm] at fu hz ⊢
          obtain ⟨n, d, h1, h2⟩ := eZ_complete A B (by omega) (by omega) ne fu hz
          exact ⟨_, fin h1, h2⟩
      have nab : a ≠ b := fun c => by rw [c] at pa; omega
      unfold E3 at ha hb
      simp only [List.mem_cons, List.not_mem_nil, or_false] at ha hb
      rcases ha with e1 | e1 | e1 <;> rcases hb with e2 | e2 | e2
      · exact absurd (e1.trans e2.symm) nab
      · exact two A0 A1 (.inl rfl) (.inl ⟨e1, e2⟩)
      · exact two A2 A0 (.inr (.inr rfl)) (.inr ⟨e1, e2⟩)
      · exact two A0 A1 (.inl rfl) (.inr ⟨e1, e2⟩)
      · exact absurd (e1.trans e2.symm) nab
      · exact two A1 A2 (.inr (.inl rfl)) (.inl ⟨e1, e2⟩)
      · exact two A2 A0 (.inr (.inr rfl)) (.inl ⟨e1, e2⟩)
      · exact two A1 A2 (.inr (.inl rfl)) (.inr ⟨e1, e2⟩)
      · exact absurd (e1.trans e2.symm) nab
    | @c _ x z hx hz ex ez hd =>
      have fin : ∀ {r : Option (Int × Int)}, CF p0 p1 p2 x z r → (∀ v, r = some v → some v ∈ allC p0 p1 p2 x0 z0 x1 z1 c00 c01 c10 c11) → ∃ r ∈ R, r.1 * dot one u = r.2 * dot (rc p0 p1 p2 x0 z0 x1 z1).ys u := fun f hin => by
        obtain ⟨n, d, h1, h2⟩ := corn_complete f fu.1.1 fu.1.2 ex ez hd
        exact ⟨_, (hR _).mpr (hin _ h1), h2⟩
      have hx : x = x0 ∨ x = x1 := hx
      have hz : z = z0 ∨ z = z1 := hz
      rcases hx with rfl | rfl <;> rcases hz with rfl | rfl
      · exact fin f00 fun v e => by unfold allC; simp [e]
      · exact fin f01 fun v e => by unfold allC; simp [e]
      · exact fin f10 fun v e => by unfold allC; simp [e]
      · exact fin f11 fun v e => by unfold allC; simp [e]
  clear inB blkS hR f00 f01 f10 f11 A0 A1 A2
  have t3 := fun y w fw => three (T := rc p0 p1 p2 x0 z0 x1 z1) (y := y) (w := w) rx rz fw
  generalize rc p0 p1 p2 x0 z0 x1 z1 = T at *
  unfold p_extent
  refine Tot.of eR ?_
  cases R with
  | nil =>
    refine Tot.iteT rfl ⟨none, rfl, .inl ⟨rfl, fun w fw => ?_⟩⟩
    obtain ⟨u, fu, cu, _⟩ := t3 T.ys w fw
    obtain ⟨r, hr, _⟩ := cpl u fu cu
    cases hr
  | cons v R =>
    refine Tot.iteF rfl ?_
    refine Tot.of (at_t (n := 0) (x := v) rfl rfl) (Tot.of (at_t (n := 0) (x := v) rfl rfl) ?_)
    rw [cutL_tail]
    refine Tot.forN (fun rest st => ∃ P, v :: R = P ++ rest ∧ st.1 ∈ v :: R ∧ st.2 ∈ v :: R ∧ ∀ u ∈ P, st.1.1 * u.2 ≤ u.1 * st.1.2 ∧ u.1 * st.2.2 ≤ st.2.1 * u.2) ⟨[v], rfl, List.mem_cons_self, List.mem_cons_self, fun u hu => by rw [List.mem_singleton.mp hu]; exact ⟨Int.le_refl _, Int.le_refl _⟩⟩ ?_ ?_
    · rintro w rest ⟨lo, hi⟩ ⟨P, eP, hlo, hhi, hP⟩
      have hw : w ∈ v :: R := by rw [eP]; exact List.mem_append_right _ List.mem_cons_self
      have bw := (snd w hw).2
      have bl := (snd lo hlo).2
      have bh := (snd hi hhi).2
      have pw := (snd w hw).1.1
      have pl := (snd lo hlo).1.1
      have ph := (snd hi hhi).1.1
      refine Tot.of (less_t (n := 200) (by decide) bw.1 bw.2 bl.1 bl.2) ?_
      refine Tot.bind (Ψ := fun j => (j ∈ v :: R) ∧ j.1 * w.2 ≤ w.1 * j.2 ∧ j.1 * lo.2 ≤ lo.1 * j.2) ?_ ?_
      · refine Tot.ite (fun c => ?_) fun c => ?_
        · have c : w.1 * lo.2 < lo.1 * w.2 := of_decide_eq_true c
          exact ⟨w, rfl, hw, Int.le_refl _, by omega⟩
        · have c : ¬ w.1 * lo.2 < lo.1 * w.2 := of_decide_eq_false c
          exact ⟨lo, rfl, hlo, by omega, Int.le_refl _⟩
      rintro lo2 ⟨hlo2, q1, q2⟩
      refine Tot.of (less_t (n := 200) (by decide) bh.1 bh.2 bw.1 bw.2) ?_
      refine Tot.bind (Ψ := fun j => (j ∈ v :: R) ∧ w.1 * j.2 ≤ j.1 * w.2 ∧ hi.1 * j.2 ≤ j.1 * hi.2) ?_ ?_
      · refine Tot.ite (fun c => ?_) fun c => ?_
        · have c : hi.1 * w.2 < w.1 * hi.2 := of_decide_eq_true c
          exact ⟨w, rfl, hw, Int.le_refl _, by omega⟩
        · have c : ¬ hi.1 * w.2 < w.1 * hi.2 := of_decide_eq_false c
          exact ⟨hi, rfl, hhi, by omega, Int.le_refl _⟩
      rintro hi2 ⟨hhi2, q3, q4⟩
      refine ⟨_, rfl, P ++ [w], by rw [eP, List.append_assoc]; rfl, hlo2, hhi2, fun u hu => ?_⟩
      rcases List.mem_append.mp hu with hu | hu
      · have pu := (snd u (by rw [eP]; exact List.mem_append_left _ hu)).1.1
        obtain ⟨k1, k2⟩ := hP u hu
        exact ⟨fr_trans pl (snd lo2 hlo2).1.1 pu q2 k1, fr_trans ph pu (snd hi2 hhi2).1.1 k2 q4⟩
      · rw [List.mem_singleton.mp hu]
        exact ⟨q1, q3⟩
    · rintro ⟨lo, hi⟩ ⟨P, eP, hlo, hhi, hP⟩
      rw [List.append_nil] at eP
      have hlo : lo ∈ v :: R := hlo
      have hhi : hi ∈ v :: R := hhi
      obtain ⟨⟨pl, ul⟩, bl⟩ := snd lo hlo
      obtain ⟨⟨ph, uh⟩, bh⟩ := snd hi hhi
      refine ⟨_, rfl, .inr ⟨lo, hi, rfl, ⟨bl.1, bl.2, bh.1, bh.2⟩, ⟨pl, ul, fun w fw => ?_⟩, neg_min ph uh fun w fw => ?_⟩⟩
      · obtain ⟨u, fu, cu, hu⟩ := t3 T.ys w fw
        obtain ⟨r, hr, er⟩ := cpl u fu cu
        have k := (hP r (by rw [← eP]; exact hr)).1
        have pr := (snd r hr).1.1
        have k2 : r.1 * dot one u ≤ dot T.ys u * r.2 := by rw [er, Int.mul_comm]; exact Int.le_refl _
        have k3 := fr_trans pr pl fu.1.2 k k2
        have k4 := fr_trans fu.1.2 pl fw.1.2 k3 hu
        rw [Int.mul_comm lo.2]
        exact k4
      · obtain ⟨u, fu, cu, hu⟩ := t3 (ngy T) w fw
        obtain ⟨r, hr, er⟩ := cpl u fu cu
        have k := (hP r (by rw [← eP]; exact hr)).2
        have pr := (snd r hr).1.1
        rw [dot_ngy, dot_ngy] at hu
        have hu2 : dot T.ys w * dot one u ≤ dot T.ys u * dot one w := by
          rw [Int.neg_mul, Int.neg_mul] at hu
          omega
        have k2 : dot T.ys u * r.2 ≤ r.1 * dot one u := by rw [er, Int.mul_comm]; exact Int.le_refl _
        have k3 := fr_trans fu.1.2 fw.1.2 pr hu2 k2
        have k4 := fr_trans pr fw.1.2 ph k3 k
        rw [Int.mul_comm hi.2]
        exact k4
/-! what is drawn -/
theorem number_t {most : Int} (h : 12 ≤ most ∧ most ≤ 1000) (s : DS) : Tot (p_law_number most s) fun r => -1000 ≤ r.1 ∧ r.1 ≤ 3000 := by
  unfold p_law_number
  refine Tot.draw (by decide) (by decide) fun a s1 a0 a1 => ?_
  refine Tot.of (mul64 ⟨by omega, by omega⟩ ⟨by omega, by omega⟩) ?_
  refine Tot.draw (by omega) (by omega) fun b s2 b0 b1 => ?_
  refine Tot.of (mul64 ⟨by omega, by omega⟩ ⟨by omega, by omega⟩) ?_
  refine Tot.draw (by omega) (by omega) fun c s3 c0 c1 => ?_
  refine Tot.draw (by decide) (by decide) fun d s4 d0 d1 => ?_
  rcases (by omega : d = 0 ∨ d = 1 ∨ d = 2) with rfl | rfl | rfl
  · exact Tot.of (r := a * 4) rfl ⟨_, rfl, by show -1000 ≤ a * 4; omega, by show a * 4 ≤ 3000; omega⟩
  · exact Tot.of (r := b) rfl ⟨_, rfl, by show -1000 ≤ b; omega, by show b ≤ 3000; omega⟩
  · exact Tot.of (r := c - most) rfl ⟨_, rfl, by show -1000 ≤ c - most; omega, by show c - most ≤ 3000; omega⟩
theorem triangle_t {most : Int} (h : 12 ≤ most ∧ most ≤ 1000) (s : DS) : Tot (p_law_triangle most s) fun r => ∃ p0 p1 p2, r.1 = [p0, p1, p2] ∧ lowP p0 ∧ lowP p1 ∧ lowP p2 := by
  unfold p_law_triangle
  rw [rng3O]
  refine Tot.nm ?_
  refine Tot.forN (fun rest st => st.1.length + rest.length = 3 ∧ ∀ p ∈ st.1, lowP p) ⟨rfl, fun _ h => nomatch h⟩ ?_ ?_
  · rintro k rest ⟨pts, s2⟩ ⟨hl, hp⟩
    have hl : pts.length + (rest.length + 1) = 3 := hl
    refine Tot.bind (number_t h s2) ?_
    rintro ⟨a, s3⟩ ⟨a0, a1⟩
    have a0 : -1000 ≤ a := a0
    have a1 : a ≤ 3000 := a1
    refine Tot.of (mul64 ⟨by omega, by omega⟩ ⟨by omega, by omega⟩) ?_
    refine Tot.draw (by omega) (by omega) fun b s4 b0 b1 => ?_
    refine Tot.bind (number_t h s4) ?_
    rintro ⟨c, s5⟩ ⟨c0, c1⟩
    have c0 : -1000 ≤ c := c0
    have c1 : c ≤ 3000 := c1
    refine Tot.of (app_t (by show pts.length < szl; unfold szl; omega)) ⟨_, rfl, ?_, fun p hp2 => ?_⟩
    · show (pts ++ [_]).length + rest.length = 3
      rw [List.length_append, List.length_singleton]
      omega
    · rcases List.mem_append.mp hp2 with hp2 | hp2
      · exact hp p hp2
      · rw [List.mem_singleton.mp hp2]
        unfold lowP low4
        dsimp only
        omega
  · rintro ⟨pts, s2⟩ ⟨hl, hp⟩
    have hl : pts.length = 3 := hl
    obtain ⟨p, q, r, rfl⟩ : ∃ p q r, pts = [p, q, r] := by
      match pts, hl with
      | [p, q, r], _ => exact ⟨p, q, r, rfl⟩
    have hp1 : lowP p := hp p (by simp)
    have hq1 : lowP q := hp q (by simp)
    have hr1 : lowP r := hp r (by simp)
    refine Tot.draw (by decide) (by decide) fun c s3 c0 c1 => ?_
    refine Tot.bind (Ψ := fun j => ∃ x y z, j = [x, y, z] ∧ lowP x ∧ lowP y ∧ lowP z) ?_ ?_
    · refine Tot.ite (fun _ => ?_) fun _ => ⟨_, rfl, p, q, r, rfl, hp1, hq1, hr1⟩
      exact Tot.of (r := p) rfl (Tot.of (r := r) rfl (Tot.of (r := p) rfl (Tot.of (r := [p, q, (p.1, r.2.1, p.2.2)]) rfl ⟨_, rfl, p, q, _, rfl, hp1, hq1, hp1.1, hr1.2.1, hp1.2.2⟩)))
    rintro _ ⟨x, y, z, rfl, hx, hy, hz⟩
    refine Tot.bind (Ψ := fun j => ∃ x y z, j = [x, y, z] ∧ lowP x ∧ lowP y ∧ lowP z) ?_ ?_
    · refine Tot.ite (fun _ => ?_) fun _ => ⟨_, rfl, x, y, z, rfl, hx, hy, hz⟩
      exact Tot.of (r := x) rfl (Tot.of (r := [x, x, z]) rfl ⟨_, rfl, x, x, z, rfl, hx, hx, hz⟩)
    rintro _ ⟨x, y, z, rfl, hx, hy, hz⟩
    refine Tot.bind (Ψ := fun j => ∃ x y z, j = [x, y, z] ∧ lowP x ∧ lowP y ∧ lowP z) ?_ ?_
    · refine Tot.ite (fun _ => ?_) fun _ => ⟨_, rfl, x, y, z, rfl, hx, hy, hz⟩
      exact Tot.of (r := [(x.1, x.2.1, x.2.2), (y.1, y.2.1, x.2.2), (z.1, z.2.1, x.2.2)]) (comp3 rfl rfl rfl) ⟨_, rfl, _, _, _, rfl, ⟨hx.1, hx.2.1, hx.2.2⟩, ⟨hy.1, hy.2.1, hx.2.2⟩, hz.1, hz.2.1, hx.2.2⟩
    rintro _ ⟨x, y, z, rfl, hx, hy, hz⟩
    exact ⟨_, rfl, x, y, z, rfl, hx, hy, hz⟩
theorem same_t {n : Nat} (hn : n ≤ 2000) {a b : Int × Int} (a1 : Smn n a.1) (a2 : Smn n a.2) (b1 : Smn n b.1) (b2 : Smn n b.2) (ha : 0 < a.2) (h : a.1 * b.2 = b.1 * a.2) : p_law_same a b = some true := by
  unfold p_law_same
  rw [mul_t a1 b2 (by unfold bigN; omega) (by unfold bigN; omega), mul_t b1 a2 (by unfold bigN; omega) (by unfold bigN; omega)]
  show (Pl.andO (decide (0 < a.2)) (some (decide (a.1 * b.2 = b.1 * a.2)))).bind _ = _
  rw [andO_t, decide_eq_true ha, decide_eq_true h]
  rfl
theorem law_tot (s : DS) : Tot (p_law s) fun r => r.1 = true := by
  unfold p_law
  refine Tot.rngO ⟨by decide, by decide⟩ ?_
  refine Tot.forG (fun _ _ => True) trivial ?_ fun s _ => ⟨_, rfl, rfl⟩
  intro x rest s _
  refine Tot.draw (by decide) (by decide) fun a s1 a0 a1 => ?_
  obtain ⟨m, em, hm⟩ : ∃ m : Int, Pl.at_ [12, 20, 1000] a = some m ∧ 12 ≤ m ∧ m ≤ 1000 := by
    rcases (by omega : a = 0 ∨ a = 1 ∨ a = 2) with rfl | rfl | rfl
    · exact ⟨12, rfl, by decide, by decide⟩
    · exact ⟨20, rfl, by decide, by decide⟩
    · exact ⟨1000, rfl, by decide, by decide⟩
  refine Tot.of em ?_
  refine Tot.bind (triangle_t hm s1) ?_
  rintro ⟨tri, s2⟩ ⟨p0, p1, p2, rfl, h0, h1, h2⟩
  refine Tot.bind (number_t hm s2) ?_
  rintro ⟨x0, s3⟩ ⟨x00, x01⟩
  have x00 : -1000 ≤ x0 := x00
  have x01 : x0 ≤ 3000 := x01
  refine Tot.bind (number_t hm s3) ?_
  rintro ⟨z0, s4⟩ ⟨z00, z01⟩
  have z00 : -1000 ≤ z0 := z00
  have z01 : z0 ≤ 3000 := z01
  have pick : ∀ b : Int, 0 ≤ b → b < 2 → ∃ w : Int, Pl.at_ [4, m] b = some w ∧ 0 < w ∧ w ≤ 1000 := fun b h0 h1 => by
    rcases (by omega : b = 0 ∨ b = 1) with rfl | rfl
    · exact ⟨4, rfl, by decide, by decide⟩
    · exact ⟨m, rfl, by omega, by omega⟩
  refine Tot.draw (by decide) (by decide) fun b s5 b0 b1 => ?_
  obtain ⟨w, ew, w0, w1⟩ := pick b b0 b1
  refine Tot.of ew ?_
  refine Tot.draw w0 (by omega) fun c s6 c0 c1 => Tot.nm ?_
  refine Tot.draw (by decide) (by decide) fun b2 s7 b20 b21 => ?_
  obtain ⟨w2, ew2, w20, w21⟩ := pick b2 b20 b21
  refine Tot.of ew2 ?_
  refine Tot.draw w20 (by omega) fun c2 s8 c20 c21 => Tot.nm ?_
  have l1 : low4 x0 := by unfold low4; omega
  have l2 : low4 z0 := by unfold low4; omega
  have l3 : low4 (x0 + 1 + c) := by unfold low4; omega
  have l4 : low4 (z0 + 1 + c2) := by unfold low4; omega
  refine Tot.bind (lext_ext h0 h1 h2 l1 l2 l3 l4) fun due hdue => ?_
  refine Tot.bind (ext_t h0 h1 h2 l1 l2 l3 l4 (by omega) (by omega)) fun told htold => ?_
  have tail : ∀ (s : DS) (one j : Int × Int), (-1000 ≤ one.1 ∧ one.1 ≤ 1000) → (-1000 ≤ one.2 ∧ one.2 ≤ 1000) → (-1000 ≤ j.1 ∧ j.1 ≤ 1000) → (-1000 ≤ j.2 ∧ j.2 ≤ 1000) → p_less one j = some (decide (one.1 * j.2 < j.1 * one.2)) ∧ Pl.mul one.1 j.2 = some (one.1 * j.2) ∧ Pl.mul j.1 one.2 = some (j.1 * one.2) := fun s one j h1 h2 h3 h4 =>
    ⟨less_t (n := 64) (by decide) (Smn.of ⟨by omega, by omega⟩) (Smn.of ⟨by omega, by omega⟩) (Smn.of ⟨by omega, by omega⟩) (Smn.of ⟨by omega, by omega⟩), mul64 ⟨by omega, by omega⟩ ⟨by omega, by omega⟩, mul64 ⟨by omega, by omega⟩ ⟨by omega, by omega⟩⟩
  have fin : ∀ (one j : Int × Int) (s : DS), (-1000 ≤ one.1 ∧ one.1 ≤ 1000) → (-1000 ≤ one.2 ∧ one.2 ≤ 1000) → (-1000 ≤ j.1 ∧ j.1 ≤ 1000) → (-1000 ≤ j.2 ∧ j.2 ≤ 1000) → Tot ((p_less one j).bind fun t41 => (Pl.orO (!true) ((Pl.mul one.1 j.2).bind fun t42 => (Pl.mul j.1 one.2).bind fun t43 => some (!decide (t41 = (decide ((t42 - t43) < (0 : Int))))))).bind fun t44 => (if t44 = true then some (.ret (false, s)) else some (.go s) : Option (Pl.Out DS (Bool × DS)))) fun o => ∃ s2, o = .go s2 ∧ True := by
    intro one j s h1 h2 h3 h4
    obtain ⟨e1, e2, e3⟩ := tail s one j h1 h2 h3 h4
    refine Tot.of e1 ?_
    rw [e2, e3]
    refine Tot.of (r := false) ?_ (Tot.iteF rfl ⟨_, rfl, _, rfl, trivial⟩)
    show some (!decide (decide (one.1 * j.2 < j.1 * one.2) = decide (one.1 * j.2 - j.1 * one.2 < 0))) = _
    rw [decide_eq_true]
    · rfl
    · rw [Bool.eq_iff_iff, decide_eq_true_eq, decide_eq_true_eq]
      omega
  rcases hdue with ⟨rfl, nd⟩ | ⟨dlo, dhi, rfl, db, dl, dh⟩
  · rcases htold with ⟨rfl, _⟩ | ⟨lo, hi, rfl, _, ⟨_, ⟨u, fu, _⟩, _⟩, _⟩
    · refine Tot.iteT rfl (Tot.iteF rfl ?_)
      refine Tot.draw (by decide) (by decide) fun d1 t1 d10 d11 => Tot.draw (by decide) (by decide) fun d2 t2 d20 d21 => Tot.nm ?_
      refine Tot.draw (by decide) (by decide) fun d3 t3 d30 d31 => Tot.draw (by decide) (by decide) fun d4 t4 d40 d41 => Tot.nm ?_
      refine Tot.draw (by decide) (by decide) fun d5 t5 d50 d51 => ?_
      refine Tot.bind (Ψ := fun j : Int × Int => (-1000 ≤ j.1 ∧ j.1 ≤ 1000) ∧ -1000 ≤ j.2 ∧ j.2 ≤ 1000) ?_ fun j hj => ?_
      · refine Tot.ite (fun _ => ?_) fun _ => ⟨_, rfl, by dsimp only; omega⟩
        refine Tot.of (mul64 ⟨by omega, by omega⟩ ⟨by omega, by omega⟩) (Tot.of (mul64 ⟨by omega, by omega⟩ ⟨by omega, by omega⟩) (Tot.nm ⟨_, rfl, by dsimp only; omega⟩))
      · exact fin (d1 - 100, 1 + d2) j t5 (by dsimp only; omega) (by dsimp only; omega) hj.1 hj.2
    · exact absurd fu (nd u)
  · rcases htold with ⟨rfl, nt⟩ | ⟨lo, hi, rfl, tb, tl, th⟩
    · obtain ⟨_, ⟨u, fu, _⟩, _⟩ := dl
      exact absurd fu (nt u)
    · have b12 : ∀ {i : Int}, Smn 200 i → Smn 1200 i := fun h => h.mono (by decide)
      have e1 : p_law_same lo dlo = some true := same_t (n := 1200) (by decide) (b12 tb.1) (b12 tb.2.1) db.1 db.2.1 tl.1 (tl.uniq dl)
      have e2 : p_law_same hi dhi = some true := same_t (n := 1200) (by decide) (b12 tb.2.2.1) (b12 tb.2.2.2) db.2.2.1 db.2.2.2 th.1 (by
        have := th.uniq dh
        rw [Int.neg_mul, Int.neg_mul] at this
        omega)
      refine Tot.iteF rfl (Tot.nm ?_)
      refine Tot.of (r := false) ?_ (Tot.iteF rfl (Tot.nm (Tot.nm (Tot.of (r := dhi) rfl (Tot.of e2 (Tot.iteF rfl ?_))))))
      · show ((p_law_same lo dlo).bind fun t50 => some (!t50)).bind (fun t51 => some t51) = _
        rw [e1]
        rfl
      · refine Tot.draw (by decide) (by decide) fun d1 t1 d10 d11 => Tot.draw (by decide) (by decide) fun d2 t2 d20 d21 => Tot.nm ?_
        refine Tot.draw (by decide) (by decide) fun d3 t3 d30 d31 => Tot.draw (by decide) (by decide) fun d4 t4 d40 d41 => Tot.nm ?_
        refine Tot.draw (by decide) (by decide) fun d5 t5 d50 d51 => ?_
        refine Tot.bind (Ψ := fun j : Int × Int => (-1000 ≤ j.1 ∧ j.1 ≤ 1000) ∧ -1000 ≤ j.2 ∧ j.2 ≤ 1000) ?_ fun j hj => ?_
        · refine Tot.ite (fun _ => ?_) fun _ => ⟨_, rfl, by dsimp only; omega⟩
          refine Tot.of (mul64 ⟨by omega, by omega⟩ ⟨by omega, by omega⟩) (Tot.of (mul64 ⟨by omega, by omega⟩ ⟨by omega, by omega⟩) (Tot.nm ⟨_, rfl, by dsimp only; omega⟩))
        · exact fin (d1 - 100, 1 + d2) j t5 (by dsimp only; omega) (by dsimp only; omega) hj.1 hj.2
theorem law_true : ∀ ns : List Int, ns.length ≤ 63 → ∃ h', m_law [.scr (ns.map D.int)] [] = some (.bl true, h') := by
  intro ns hl
  obtain ⟨s, e⟩ := Dr.state_ev ns hl
  obtain ⟨r, e2, h⟩ := law_tot s
  have e3 := q_law (tl := []) (h0 := []) (v_script := .scr (ns.map D.int)) e e2 rfl
  rw [h] at e3
  exact ⟨_, e3⟩
end W

set_option Elab.async false
set_option linter.all false
set_option maxRecDepth 100000
namespace W
open PySem L2 Mi PySem.W
structure Txt (K : Kx) (mg : Str → Option Value) (base : Heap) where
  a_law_state : Addr
  d_law_state : FuncData
  f_law_state : FunD K "_law_state" "_law_state" (defArgs s_law_state) (defBody s_law_state) (defScope s_law_state) [] [] a_law_state d_law_state
  m_law_state : mg "_law_state" = some (.ref a_law_state)
  b_law_state : Binds K d_law_state ["_law_script"] []
  a_law_draw : Addr
  d_law_draw : FuncData
  f_law_draw : FunD K "_law_draw" "_law_draw" (defArgs s_law_draw) (defBody s_law_draw) (defScope s_law_draw) [] [] a_law_draw d_law_draw
  m_law_draw : mg "_law_draw" = some (.ref a_law_draw)
  b_law_draw : Binds K d_law_draw ["_law_state_here", "_law_many"] []
  a_law_number : Addr
  d_law_number : FuncData
  f_law_number : FunD K "_law_number" "_law_number" (defArgs s_law_number) (defBody s_law_number) (defScope s_law_number) [] [] a_law_number d_law_number
  m_law_number : mg "_law_number" = some (.ref a_law_number)
  b_law_number : Binds K d_law_number ["_law_state_here", "_law_most"] []
  a_law_triangle : Addr
  d_law_triangle : FuncData
  f_law_triangle : FunD K "_law_triangle" "_law_triangle" (defArgs s_law_triangle) (defBody s_law_triangle) (defScope s_law_triangle) [] [] a_law_triangle d_law_triangle
  m_law_triangle : mg "_law_triangle" = some (.ref a_law_triangle)
  b_law_triangle : Binds K d_law_triangle ["_law_state_here", "_law_most"] []
  a_law_beyond : Addr
  d_law_beyond : FuncData
  f_law_beyond : FunD K "_law_beyond" "_law_beyond" (defArgs s_law_beyond) (defBody s_law_beyond) (defScope s_law_beyond) [] [] a_law_beyond d_law_beyond
  m_law_beyond : mg "_law_beyond" = some (.ref a_law_beyond)
  b_law_beyond : Binds K d_law_beyond ["_law_point", "_law_axis", "_law_sign", "_law_at"] []
  a_law_cut : Addr
  d_law_cut : FuncData
  f_law_cut : FunD K "_law_cut" "_law_cut" (defArgs s_law_cut) (defBody s_law_cut) (defScope s_law_cut) [] [] a_law_cut d_law_cut
  m_law_cut : mg "_law_cut" = some (.ref a_law_cut)
  b_law_cut : Binds K d_law_cut ["_law_one", "_law_other", "_law_axis", "_law_sign", "_law_at"] []
  a_law_clip : Addr
  d_law_clip : FuncData
  f_law_clip : FunD K "_law_clip" "_law_clip" (defArgs s_law_clip) (defBody s_law_clip) (defScope s_law_clip) [] [] a_law_clip d_law_clip
  m_law_clip : mg "_law_clip" = some (.ref a_law_clip)
  b_law_clip : Binds K d_law_clip ["_law_shape", "_law_axis", "_law_sign", "_law_at"] []
  a_law_over : Addr
  d_law_over : FuncData
  f_law_over : FunD K "_law_over" "_law_over" (defArgs s_law_over) (defBody s_law_over) (defScope s_law_over) [] [] a_law_over d_law_over
  m_law_over : mg "_law_over" = some (.ref a_law_over)
  b_law_over : Binds K d_law_over ["_law_triangle_here", "_law_x0", "_law_z0", "_law_x1", "_law_z1"] []
  a_law_extent : Addr
  d_law_extent : FuncData
  f_law_extent : FunD K "_law_extent" "_law_extent" (defArgs s_law_extent) (defBody s_law_extent) (defScope s_law_extent) [] [] a_law_extent d_law_extent
  m_law_extent : mg "_law_extent" = some (.ref a_law_extent)
  b_law_extent : Binds K d_law_extent ["_law_triangle_here", "_law_x0", "_law_z0", "_law_x1", "_law_z1"] []
  a_minus : Addr
  d_minus : FuncData
  f_minus : FunD K "minus" "minus" (defArgs s_minus) (defBody s_minus) (defScope s_minus) [] [] a_minus d_minus
  m_minus : mg "minus" = some (.ref a_minus)
  b_minus : Binds K d_minus ["p", "q"] []
  a_normal : Addr
  d_normal : FuncData
  f_normal : FunD K "normal" "normal" (defArgs s_normal) (defBody s_normal) (defScope s_normal) [] [] a_normal d_normal
  m_normal : mg "normal" = some (.ref a_normal)
  b_normal : Binds K d_normal ["triangle"] []
  a_positive : Addr
  d_positive : FuncData
  f_positive : FunD K "positive" "positive" (defArgs s_positive) (defBody s_positive) (defScope s_positive) [] [] a_positive d_positive
  m_positive : mg "positive" = some (.ref a_positive)
  b_positive : Binds K d_positive ["number", "den"] []
  a_on_edge : Addr
  d_on_edge : FuncData
  f_on_edge : FunD K "on_edge" "on_edge" (defArgs s_on_edge) (defBody s_on_edge) (defScope s_on_edge) [] [] a_on_edge d_on_edge
  m_on_edge : mg "on_edge" = some (.ref a_on_edge)
  b_on_edge : Binds K d_on_edge ["p", "q", "axis", "at", "low", "high"] []
  a_side : Addr
  d_side : FuncData
  f_side : FunD K "side" "side" (defArgs s_side) (defBody s_side) (defScope s_side) [] [] a_side d_side
  m_side : mg "side" = some (.ref a_side)
  b_side : Binds K d_side ["p", "q", "x", "z"] []
  a_at_corner : Addr
  d_at_corner : FuncData
  f_at_corner : FunD K "at_corner" "at_corner" (defArgs s_at_corner) (defBody s_at_corner) (defScope s_at_corner) [] [] a_at_corner d_at_corner
  m_at_corner : mg "at_corner" = some (.ref a_at_corner)
  b_at_corner : Binds K d_at_corner ["triangle", "up", "x", "z"] []
  a_heights : Addr
  d_heights : FuncData
  f_heights : FunD K "heights" "heights" (defArgs s_heights) (defBody s_heights) (defScope s_heights) [] [] a_heights d_heights
  m_heights : mg "heights" = some (.ref a_heights)
  b_heights : Binds K d_heights ["triangle", "x0", "z0", "x1", "z1"] []
  a_less : Addr
  d_less : FuncData
  f_less : FunD K "less" "less" (defArgs s_less) (defBody s_less) (defScope s_less) [] [] a_less d_less
  m_less : mg "less" = some (.ref a_less)
  b_less : Binds K d_less ["one", "other"] []
  a_extent : Addr
  d_extent : FuncData
  f_extent : FunD K "extent" "extent" (defArgs s_extent) (defBody s_extent) (defScope s_extent) [] [] a_extent d_extent
  m_extent : mg "extent" = some (.ref a_extent)
  b_extent : Binds K d_extent ["triangle", "x0", "z0", "x1", "z1"] []
  a_law_same : Addr
  d_law_same : FuncData
  f_law_same : FunD K "_law_same" "_law_same" (defArgs s_law_same) (defBody s_law_same) (defScope s_law_same) [] [] a_law_same d_law_same
  m_law_same : mg "_law_same" = some (.ref a_law_same)
  b_law_same : Binds K d_law_same ["_law_one", "_law_other"] []
  a_law : Addr
  d_law : FuncData
  f_law : FunD K "law" "law" (defArgs s_law) (defBody s_law) (defScope s_law) [] [] a_law d_law
  m_law : mg "law" = some (.ref a_law)
  b_law : Binds K d_law ["_law_script"] []
  n_abs : mg "abs" = none
  n_bool : mg "bool" = none
  n_int : mg "int" = none
  n_isinstance : mg "isinstance" = none
  n_len : mg "len" = none
  n_max : mg "max" = none
  n_min : mg "min" = none
  n_range : mg "range" = none
  n_tuple : mg "tuple" = none
section
variable {P : Program} {w : World} {K : Kx} {mg : Str → Option Value} {base : Heap}
theorem ok_law_state (T : Txt K mg base) : FnOk P w K mg base CX0 1 T.a_law_state T.d_law_state ["_law_script"] (spM 1 K m_law_state) := fnD_ok T.f_law_state sc_law_state rfl rfl fun A outer s H Ee hr =>
  (mss_cons (ms_set (i := 1) sc_law_state.nd me_int) (mss_cons (ms_for PassesOwn.never rfl (mi_seq (me_var 0)) seq_noOwn (mg_nm (i := 2) sc_law_state.nd) (mss_one (ms_set (i := 1) sc_law_state.nd (me_op o_mod (me_ty1 f_int1 (by rfl) T.n_int (by decide +kernel) (me_op o_add (me_op o_mul (me_var 1) me_int) (me_var 2))) me_int)))) (mss_one (ms_ret (me_shr (mf_disp (ma_cons (me_shr (mf_lc [2] (own := [("_law_cell", 2)]) rfl sc_law_state.nd (mi_seqC (me_var 0)) (blkOk_by (by kernel_rfl)) rfl (fun _ _ _ _ _ => (mg_nm (i := 2) sc_law_state.nd)) (fun _ _ _ _ _ => mts_nil) (fun _ _ _ _ _ => (me_blt1 f_abs (by rfl) T.n_abs (by decide +kernel) (me_var 2))) (by decide))) (ma_cons (me_op o_add (me_var 1) me_int) ma_nil))))))))
theorem ok_law_draw (T : Txt K mg base) : FnOk P w K mg base CX0 1 T.a_law_draw T.d_law_draw ["_law_state_here", "_law_many"] (spM 2 K m_law_draw) := fnD_ok T.f_law_draw sc_law_draw rfl rfl fun A outer s H Ee hr =>
  (mss_cons (ms_set (i := 2) sc_law_draw.nd (me_ix (me_var 0) me_int)) (mss_cons (ms_whl PassesOwn.never (PW.pt (mw_and (mt_cmp o_gt (me_blt1 f_len (by rfl) T.n_len (by decide +kernel) (me_var 2)) me_int (nomark _)) (mw_and1 (mt_cmp (o_eq hr.units) (me_ix (me_var 2) me_int) me_int (nomark _))))) (mss_one (ms_expr (me_popAt (me_var 2) (ma_cons me_int ma_nil))))) (mss_cons (ms_if (mt_cmp o_gt (me_blt1 f_len (by rfl) T.n_len (by decide +kernel) (me_var 2)) me_int (nomark _)) (mss_cons (ms_set (i := 3) sc_law_draw.nd (me_ix (me_var 2) me_int)) (mss_cons (ms_setIx (me_op o_div (me_var 3) (me_var 1)) (me_var 2) me_int) (mss_one (ms_ret (me_op o_mod (me_ty1 f_int1 (by rfl) T.n_int (by decide +kernel) (me_var 3)) (me_var 1)))))) mss_nil) (mss_cons (ms_set (i := 4) sc_law_draw.nd (me_op o_mod (me_ty1 f_int1 (by rfl) T.n_int (by decide +kernel) (me_op o_add (me_op o_mul (me_ix (me_var 0) me_int) me_int) me_int)) me_int)) (mss_cons (ms_setIx (me_var 4) (me_var 0) me_int) (mss_one (ms_ret (me_op o_mod (me_ty1 f_int1 (by rfl) T.n_int (by decide +kernel) (me_op o_div (me_var 4) me_int)) (me_var 1)))))))))
theorem ok_law_number (T : Txt K mg base) : FnOk P w K mg base CX0 2 T.a_law_number T.d_law_number ["_law_state_here", "_law_most"] (spM 2 K m_law_number) := fnD_ok T.f_law_number sc_law_number rfl rfl fun A outer s H Ee hr =>
  (mss_one (ms_ret (me_ix (me_frz (mf_disp (ma_cons (me_op o_mul (me_call (ok_law_draw T) (hr.mono (by decide)) (by rfl) T.m_law_draw T.f_law_draw.kp T.b_law_draw (ma_cons (me_var 0) (ma_cons me_int ma_nil))) me_int) (ma_cons (me_call (ok_law_draw T) (hr.mono (by decide)) (by rfl) T.m_law_draw T.f_law_draw.kp T.b_law_draw (ma_cons (me_var 0) (ma_cons (me_var 1) ma_nil))) (ma_cons (me_op o_sub (me_call (ok_law_draw T) (hr.mono (by decide)) (by rfl) T.m_law_draw T.f_law_draw.kp T.b_law_draw (ma_cons (me_var 0) (ma_cons (me_op o_mul me_int (me_var 1)) ma_nil))) (me_var 1)) ma_nil))))) (me_call (ok_law_draw T) (hr.mono (by decide)) (by rfl) T.m_law_draw T.f_law_draw.kp T.b_law_draw (ma_cons (me_var 0) (ma_cons me_int ma_nil))))))
theorem ok_law_triangle (T : Txt K mg base) : FnOk P w K mg base CX0 3 T.a_law_triangle T.d_law_triangle ["_law_state_here", "_law_most"] (spM 2 K m_law_triangle) := fnD_ok T.f_law_triangle sc_law_triangle rfl rfl fun A outer s H Ee hr =>
  (mss_cons (ms_own (i := 2) sc_law_triangle.nd (mf_disp ma_nil)) (mss_cons (ms_for PassesOwn.never rfl (mi_rng1 (by rfl) T.n_range me_int) rng1_noOwn (mg_nm (i := 3) sc_law_triangle.nd) (mss_one (ms_expr (me_append (me_var 2) (ma_cons (me_tup (ma_cons (me_call (ok_law_number T) (hr.mono (by decide)) (by rfl) T.m_law_number T.f_law_number.kp T.b_law_number (ma_cons (me_var 0) (ma_cons (me_var 1) ma_nil))) (ma_cons (me_op o_sub (me_call (ok_law_draw T) (hr.mono (by decide)) (by rfl) T.m_law_draw T.f_law_draw.kp T.b_law_draw (ma_cons (me_var 0) (ma_cons (me_op o_mul me_int (me_var 1)) ma_nil))) (me_var 1)) (ma_cons (me_call (ok_law_number T) (hr.mono (by decide)) (by rfl) T.m_law_number T.f_law_number.kp T.b_law_number (ma_cons (me_var 0) (ma_cons (me_var 1) ma_nil))) ma_nil)))) ma_nil))))) (mss_cons (ms_set (i := 4) sc_law_triangle.nd (me_call (ok_law_draw T) (hr.mono (by decide)) (by rfl) T.m_law_draw T.f_law_draw.kp T.b_law_draw (ma_cons (me_var 0) (ma_cons me_int ma_nil)))) (mss_cons (ms_if (mt_cmp (o_eq hr.units) (me_var 4) me_int (nomark _)) (mss_one (ms_setIx (me_tup (ma_cons (me_ix (me_ix (me_var 2) me_int) me_int) (ma_cons (me_ix (me_ix (me_var 2) me_int) me_int) (ma_cons (me_ix (me_ix (me_var 2) me_int) me_int) ma_nil)))) (me_var 2) me_int)) mss_nil) (mss_cons (ms_if (mt_cmp (o_eq hr.units) (me_var 4) me_int (nomark _)) (mss_one (ms_setIx (me_ix (me_var 2) me_int) (me_var 2) me_int)) mss_nil) (mss_cons (ms_if (mt_cmp (o_eq hr.units) (me_var 4) me_int (nomark _)) (mss_one (ms_own (i := 2) sc_law_triangle.nd (mf_lc [5, 6, 7] (own := [("_law_x", 5), ("_law_y", 6), ("_law_z", 7)]) rfl sc_law_triangle.nd (mi_seqC (me_var 2)) (blkOk_by (by kernel_rfl)) rfl (fun _ _ _ _ _ => (mg_tp rfl (mgs_cons (mg_nm (i := 5) sc_law_triangle.nd) (mgs_cons (mg_nm (i := 6) sc_law_triangle.nd) (mgs_cons (mg_nm (i := 7) sc_law_triangle.nd) mgs_nil))))) (fun _ _ _ _ _ => mts_nil) (fun _ _ _ _ _ => (me_tup (ma_cons (me_var 5) (ma_cons (me_var 6) (ma_cons (me_ix (me_ix (me_var 2) me_int) me_int) ma_nil))))) (by decide)))) mss_nil) (mss_frz 2 (mss_one (ms_ret (me_ty1 f_tuple (by rfl) T.n_tuple (by decide +kernel) (me_var 2)))))))))))
theorem ok_law_beyond (T : Txt K mg base) : FnOk P w K mg base CX0 1 T.a_law_beyond T.d_law_beyond ["_law_point", "_law_axis", "_law_sign", "_law_at"] (spM 4 K m_law_beyond) := fnD_ok T.f_law_beyond sc_law_beyond rfl rfl fun A outer s H Ee hr =>
  (mss_one (ms_ret (me_op o_mul (me_var 2) (me_op o_sub (me_ix (me_var 0) (me_var 1)) (me_op o_mul (me_var 3) (me_ix (me_var 0) me_int))))))
theorem ok_law_cut (T : Txt K mg base) : FnOk P w K mg base CX0 2 T.a_law_cut T.d_law_cut ["_law_one", "_law_other", "_law_axis", "_law_sign", "_law_at"] (spM 5 K m_law_cut) := fnD_ok T.f_law_cut sc_law_cut rfl rfl fun A outer s H Ee hr =>
  (mss_cons (ms_set (i := 5) sc_law_cut.nd (me_blt1 f_abs (by rfl) T.n_abs (by decide +kernel) (me_call (ok_law_beyond T) (hr.mono (by decide)) (by rfl) T.m_law_beyond T.f_law_beyond.kp T.b_law_beyond (ma_cons (me_var 0) (ma_cons (me_var 2) (ma_cons (me_var 3) (ma_cons (me_var 4) ma_nil))))))) (mss_cons (ms_set (i := 6) sc_law_cut.nd (me_blt1 f_abs (by rfl) T.n_abs (by decide +kernel) (me_call (ok_law_beyond T) (hr.mono (by decide)) (by rfl) T.m_law_beyond T.f_law_beyond.kp T.b_law_beyond (ma_cons (me_var 1) (ma_cons (me_var 2) (ma_cons (me_var 3) (ma_cons (me_var 4) ma_nil))))))) (mss_one (ms_ret (me_ty1 f_tuple (by rfl) T.n_tuple (by decide +kernel) (me_frz (mf_lc [7] (own := [("_law_k", 7)]) rfl sc_law_cut.nd (mi_rng1 (by rfl) T.n_range me_int) (blkOk_by (by kernel_rfl)) rfl (fun _ _ _ _ _ => (mg_nm (i := 7) sc_law_cut.nd)) (fun _ _ _ _ _ => mts_nil) (fun _ _ _ _ _ => (me_op o_add (me_op o_mul (me_ix (me_var 0) (me_var 7)) (me_var 6)) (me_op o_mul (me_ix (me_var 1) (me_var 7)) (me_var 5)))) (by decide))))))))
theorem ok_law_clip (T : Txt K mg base) : FnOk P w K mg base CX0 3 T.a_law_clip T.d_law_clip ["_law_shape", "_law_axis", "_law_sign", "_law_at"] (spM 4 K m_law_clip) := fnD_ok T.f_law_clip sc_law_clip rfl rfl fun A outer s H Ee hr =>
  (mss_cons (ms_own (i := 4) sc_law_clip.nd (mf_disp ma_nil)) (mss_cons (ms_for PassesOwn.never rfl (mi_rng1 (by rfl) T.n_range (me_blt1 f_len (by rfl) T.n_len (by decide +kernel) (me_var 0))) rng1_noOwn (mg_nm (i := 5) sc_law_clip.nd) (mss_cons (ms_set (i := 6) sc_law_clip.nd (me_ix (me_var 0) (me_op o_sub (me_var 5) me_int))) (mss_cons (ms_set (i := 7) sc_law_clip.nd (me_ix (me_var 0) (me_var 5))) (mss_cons (ms_set (i := 8) sc_law_clip.nd (me_call (ok_law_beyond T) (hr.mono (by decide)) (by rfl) T.m_law_beyond T.f_law_beyond.kp T.b_law_beyond (ma_cons (me_var 6) (ma_cons (me_var 1) (ma_cons (me_var 2) (ma_cons (me_var 3) ma_nil)))))) (mss_cons (ms_set (i := 9) sc_law_clip.nd (me_call (ok_law_beyond T) (hr.mono (by decide)) (by rfl) T.m_law_beyond T.f_law_beyond.kp T.b_law_beyond (ma_cons (me_var 7) (ma_cons (me_var 1) (ma_cons (me_var 2) (ma_cons (me_var 3) ma_nil)))))) (mss_cons (ms_if (PW.pt (mw_or (PW.pt (mw_and (mt_cmp o_gt (me_var 8) me_int (nomark _)) (mw_and1 (mt_cmp o_lt (me_var 9) me_int (nomark _))))) (mw_or1 (PW.pt (mw_and (mt_cmp o_lt (me_var 8) me_int (nomark _)) (mw_and1 (mt_cmp o_gt (me_var 9) me_int (nomark _)))))))) (mss_one (ms_expr (me_append (me_var 4) (ma_cons (me_call (ok_law_cut T) (hr.mono (by decide)) (by rfl) T.m_law_cut T.f_law_cut.kp T.b_law_cut (ma_cons (me_var 6) (ma_cons (me_var 7) (ma_cons (me_var 1) (ma_cons (me_var 2) (ma_cons (me_var 3) ma_nil)))))) ma_nil)))) mss_nil) (mss_one (ms_if (mt_cmp o_le (me_var 9) me_int (nomark _)) (mss_one (ms_expr (me_append (me_var 4) (ma_cons (me_var 7) ma_nil)))) mss_nil)))))))) (mss_one (ms_ret (me_var 4)))))
theorem ok_law_over (T : Txt K mg base) : FnOk P w K mg base CX0 4 T.a_law_over T.d_law_over ["_law_triangle_here", "_law_x0", "_law_z0", "_law_x1", "_law_z1"] (spM 5 K m_law_over) := fnD_ok T.f_law_over sc_law_over rfl rfl fun A outer s H Ee hr =>
  (mss_cons (ms_frzLc (i := 5) [6, 7, 8] (own := [("_law_x", 6), ("_law_y", 7), ("_law_z", 8)]) rfl sc_law_over.nd rfl rfl (sw_true rfl rfl rfl (by decide +kernel)) (mi_seqC (me_var 0)) (blkOk_by (by kernel_rfl)) rfl (fun _ _ _ _ _ => (mg_tp rfl (mgs_cons (mg_nm (i := 6) sc_law_over.nd) (mgs_cons (mg_nm (i := 7) sc_law_over.nd) (mgs_cons (mg_nm (i := 8) sc_law_over.nd) mgs_nil))))) (fun _ _ _ _ _ => mts_nil) (fun _ _ _ _ _ => (me_tup (ma_cons (me_var 6) (ma_cons (me_var 7) (ma_cons (me_var 8) (ma_cons me_int ma_nil)))))) (by decide)) (mss_cons (ms_for PassesOwn.never rfl (mi_seq (me_frz (mf_disp (ma_cons (me_tup (ma_cons me_int (ma_cons (me_neg me_int) (ma_cons (me_var 1) ma_nil)))) (ma_cons (me_tup (ma_cons me_int (ma_cons me_int (ma_cons (me_var 3) ma_nil)))) (ma_cons (me_tup (ma_cons me_int (ma_cons (me_neg me_int) (ma_cons (me_var 2) ma_nil)))) (ma_cons (me_tup (ma_cons me_int (ma_cons me_int (ma_cons (me_var 4) ma_nil)))) ma_nil))))))) seq_noOwn (mg_tp rfl (mgs_cons (mg_nm (i := 9) sc_law_over.nd) (mgs_cons (mg_nm (i := 10) sc_law_over.nd) (mgs_cons (mg_nm (i := 11) sc_law_over.nd) mgs_nil)))) (mss_one (ms_set (i := 5) sc_law_over.nd (me_call (ok_law_clip T) (hr.mono (by decide)) (by rfl) T.m_law_clip T.f_law_clip.kp T.b_law_clip (ma_cons (me_var 5) (ma_cons (me_var 9) (ma_cons (me_var 10) (ma_cons (me_var 11) ma_nil)))))))) (mss_one (ms_ret (me_var 5)))))
theorem ok_law_extent (T : Txt K mg base) : FnOk P w K mg base CX0 5 T.a_law_extent T.d_law_extent ["_law_triangle_here", "_law_x0", "_law_z0", "_law_x1", "_law_z1"] (spM 5 K m_law_extent) := fnD_ok T.f_law_extent sc_law_extent rfl rfl fun A outer s H Ee hr =>
  (mss_cons (ms_set (i := 5) sc_law_extent.nd (me_call (ok_law_over T) (hr.mono (by decide)) (by rfl) T.m_law_over T.f_law_over.kp T.b_law_over (ma_cons (me_var 0) (ma_cons (me_var 1) (ma_cons (me_var 2) (ma_cons (me_var 3) (ma_cons (me_var 4) ma_nil))))))) (mss_cons (ms_if (mt_cmp (o_eq hr.units) (me_blt1 f_len (by rfl) T.n_len (by decide +kernel) (me_var 5)) me_int (nomark _)) (mss_one (ms_ret me_non)) mss_nil) (mss_cons (ms_set (i := 6) sc_law_extent.nd (me_ix (me_var 5) me_int)) (mss_cons (ms_set (i := 7) sc_law_extent.nd (me_ix (me_var 5) me_int)) (mss_cons (ms_for PassesOwn.never rfl (mi_seq (me_var 5)) seq_noOwn (mg_nm (i := 8) sc_law_extent.nd) (mss_cons (ms_if (mt_cmp o_lt (me_op o_mul (me_ix (me_var 8) me_int) (me_ix (me_var 6) me_int)) (me_op o_mul (me_ix (me_var 6) me_int) (me_ix (me_var 8) me_int)) (nomark _)) (mss_one (ms_set (i := 6) sc_law_extent.nd (me_var 8))) mss_nil) (mss_one (ms_if (mt_cmp o_gt (me_op o_mul (me_ix (me_var 8) me_int) (me_ix (me_var 7) me_int)) (me_op o_mul (me_ix (me_var 7) me_int) (me_ix (me_var 8) me_int)) (nomark _)) (mss_one (ms_set (i := 7) sc_law_extent.nd (me_var 8))) mss_nil)))) (mss_one (ms_ret (me_frz (mf_disp (ma_cons (me_tup (ma_cons (me_ix (me_var 6) me_int) (ma_cons (me_ix (me_var 6) me_int) ma_nil))) (ma_cons (me_tup (ma_cons (me_ix (me_var 7) me_int) (ma_cons (me_ix (me_var 7) me_int) ma_nil))) ma_nil)))))))))))
theorem ok_minus (T : Txt K mg base) : FnOk P w K mg base CX0 1 T.a_minus T.d_minus ["p", "q"] (spM 2 K m_minus) := fnD_ok T.f_minus sc_minus rfl rfl fun A outer s H Ee hr =>
  (mss_one (ms_ret (me_tup (ma_cons (me_op o_sub (me_ix (me_var 0) me_int) (me_ix (me_var 1) me_int)) (ma_cons (me_op o_sub (me_ix (me_var 0) me_int) (me_ix (me_var 1) me_int)) (ma_cons (me_op o_sub (me_ix (me_var 0) me_int) (me_ix (me_var 1) me_int)) ma_nil))))))
theorem ok_normal (T : Txt K mg base) : FnOk P w K mg base CX0 2 T.a_normal T.d_normal ["triangle"] (spM 1 K m_normal) := fnD_ok T.f_normal sc_normal rfl rfl fun A outer s H Ee hr =>
  (mss_cons (ms_set (i := 1) sc_normal.nd (me_call (ok_minus T) (hr.mono (by decide)) (by rfl) T.m_minus T.f_minus.kp T.b_minus (ma_cons (me_ix (me_var 0) me_int) (ma_cons (me_ix (me_var 0) me_int) ma_nil)))) (mss_cons (ms_set (i := 2) sc_normal.nd (me_call (ok_minus T) (hr.mono (by decide)) (by rfl) T.m_minus T.f_minus.kp T.b_minus (ma_cons (me_ix (me_var 0) me_int) (ma_cons (me_ix (me_var 0) me_int) ma_nil)))) (mss_one (ms_ret (me_tup (ma_cons (me_op o_sub (me_op o_mul (me_ix (me_var 1) me_int) (me_ix (me_var 2) me_int)) (me_op o_mul (me_ix (me_var 1) me_int) (me_ix (me_var 2) me_int))) (ma_cons (me_op o_sub (me_op o_mul (me_ix (me_var 1) me_int) (me_ix (me_var 2) me_int)) (me_op o_mul (me_ix (me_var 1) me_int) (me_ix (me_var 2) me_int))) (ma_cons (me_op o_sub (me_op o_mul (me_ix (me_var 1) me_int) (me_ix (me_var 2) me_int)) (me_op o_mul (me_ix (me_var 1) me_int) (me_ix (me_var 2) me_int))) ma_nil))))))))
theorem ok_positive (T : Txt K mg base) : FnOk P w K mg base CX0 1 T.a_positive T.d_positive ["number", "den"] (spM 2 K m_positive) := fnD_ok T.f_positive sc_positive rfl rfl fun A outer s H Ee hr =>
  (mss_cons (ms_if (mt_cmp o_lt (me_var 1) me_int (nomark _)) (mss_one (ms_ret (me_tup (ma_cons (me_neg (me_var 0)) (ma_cons (me_neg (me_var 1)) ma_nil))))) mss_nil) (mss_one (ms_ret (me_tup (ma_cons (me_var 0) (ma_cons (me_var 1) ma_nil))))))
theorem ok_on_edge (T : Txt K mg base) : FnOk P w K mg base CX0 2 T.a_on_edge T.d_on_edge ["p", "q", "axis", "at", "low", "high"] (spM 6 K m_on_edge) := fnD_ok T.f_on_edge sc_on_edge rfl rfl fun A outer s H Ee hr =>
  (mss_cons (ms_set (i := 6) sc_on_edge.nd (me_op o_sub (me_ix (me_var 1) (me_var 2)) (me_ix (me_var 0) (me_var 2)))) (mss_cons (ms_if (PW.pt (mw_or (mt_cmp (o_eq hr.units) (me_var 6) me_int (nomark _)) (mw_or1 (mt_not (mt_chain o_le o_le (me_blt2 (f_min2 rfl) (by rfl) T.n_min (by decide +kernel) (ma_cons (me_ix (me_var 0) (me_var 2)) (ma_cons (me_ix (me_var 1) (me_var 2)) ma_nil))) (me_var 3) (me_blt2 (f_max2 rfl) (by rfl) T.n_max (by decide +kernel) (ma_cons (me_ix (me_var 0) (me_var 2)) (ma_cons (me_ix (me_var 1) (me_var 2)) ma_nil)))))))) (mss_one (ms_ret me_non)) mss_nil) (mss_cons (ms_set (i := 7) sc_on_edge.nd (me_op o_sub (me_var 3) (me_ix (me_var 0) (me_var 2)))) (mss_cons (ms_set (i := 8) sc_on_edge.nd (me_call (ok_positive T) (hr.mono (by decide)) (by rfl) T.m_positive T.f_positive.kp T.b_positive (ma_cons (me_op o_add (me_op o_mul (me_ix (me_var 0) (me_op o_sub me_int (me_var 2))) (me_var 6)) (me_op o_mul (me_op o_sub (me_ix (me_var 1) (me_op o_sub me_int (me_var 2))) (me_ix (me_var 0) (me_op o_sub me_int (me_var 2)))) (me_var 7))) (ma_cons (me_var 6) ma_nil)))) (mss_cons (ms_if (mt_not (mt_chain o_le o_le (me_op o_mul (me_var 4) (me_ix (me_var 8) me_int)) (me_ix (me_var 8) me_int) (me_op o_mul (me_var 5) (me_ix (me_var 8) me_int)))) (mss_one (ms_ret me_non)) mss_nil) (mss_one (ms_ret (me_call (ok_positive T) (hr.mono (by decide)) (by rfl) T.m_positive T.f_positive.kp T.b_positive (ma_cons (me_op o_add (me_op o_mul (me_ix (me_var 0) me_int) (me_var 6)) (me_op o_mul (me_op o_sub (me_ix (me_var 1) me_int) (me_ix (me_var 0) me_int)) (me_var 7))) (ma_cons (me_var 6) ma_nil))))))))))
theorem ok_side (T : Txt K mg base) : FnOk P w K mg base CX0 1 T.a_side T.d_side ["p", "q", "x", "z"] (spM 4 K m_side) := fnD_ok T.f_side sc_side rfl rfl fun A outer s H Ee hr =>
  (mss_one (ms_ret (me_op o_sub (me_op o_mul (me_op o_sub (me_ix (me_var 1) me_int) (me_ix (me_var 0) me_int)) (me_op o_sub (me_var 3) (me_ix (me_var 0) me_int))) (me_op o_mul (me_op o_sub (me_ix (me_var 1) me_int) (me_ix (me_var 0) me_int)) (me_op o_sub (me_var 2) (me_ix (me_var 0) me_int))))))
theorem ok_at_corner (T : Txt K mg base) : FnOk P w K mg base CX0 2 T.a_at_corner T.d_at_corner ["triangle", "up", "x", "z"] (spM 4 K m_at_corner) := fnD_ok T.f_at_corner sc_at_corner rfl rfl fun A outer s H Ee hr =>
  (mss_cons (ms_if (mt_cmp (o_eq hr.units) (me_ix (me_var 1) me_int) me_int (nomark _)) (mss_one (ms_ret me_non)) mss_nil) (mss_cons (ms_frzLc (i := 4) [5] (own := [("k", 5)]) rfl sc_at_corner.nd rfl rfl (sw_true rfl rfl rfl (by decide +kernel)) (mi_rng1 (by rfl) T.n_range me_int) (blkOk_by (by kernel_rfl)) rfl (fun _ _ _ _ _ => (mg_nm (i := 5) sc_at_corner.nd)) (fun _ _ _ _ _ => mts_nil) (fun _ _ _ _ _ => (me_call (ok_side T) (hr.mono (by decide)) (by rfl) T.m_side T.f_side.kp T.b_side (ma_cons (me_ix (me_var 0) (me_var 5)) (ma_cons (me_ix (me_var 0) (me_op o_mod (me_op o_add (me_var 5) me_int) me_int)) (ma_cons (me_var 2) (ma_cons (me_var 3) ma_nil)))))) (by decide)) (mss_cons (ms_if (mt_chain o_lt o_lt (me_blt1 (f_minR rfl hr.units) (by rfl) T.n_min (by decide +kernel) (me_var 4)) me_int (me_blt1 (f_maxR rfl hr.units) (by rfl) T.n_max (by decide +kernel) (me_var 4))) (mss_one (ms_ret me_non)) mss_nil) (mss_cons (ms_set (i := 6) sc_at_corner.nd (me_ix (me_var 0) me_int)) (mss_one (ms_ret (me_call (ok_positive T) (hr.mono (by decide)) (by rfl) T.m_positive T.f_positive.kp T.b_positive (ma_cons (me_op o_sub (me_op o_sub (me_op o_mul (me_ix (me_var 6) me_int) (me_ix (me_var 1) me_int)) (me_op o_mul (me_ix (me_var 1) me_int) (me_op o_sub (me_var 2) (me_ix (me_var 6) me_int)))) (me_op o_mul (me_ix (me_var 1) me_int) (me_op o_sub (me_var 3) (me_ix (me_var 6) me_int)))) (ma_cons (me_ix (me_var 1) me_int) ma_nil)))))))))
theorem ok_heights (T : Txt K mg base) : FnOk P w K mg base CX0 3 T.a_heights T.d_heights ["triangle", "x0", "z0", "x1", "z1"] (spM 5 K m_heights) := fnD_ok T.f_heights sc_heights rfl rfl fun A outer s H Ee hr =>
  (mss_cons (ms_own (i := 5) sc_heights.nd (mf_disp ma_nil)) (mss_cons (ms_set (i := 6) sc_heights.nd (me_call (ok_normal T) (hr.mono (by decide)) (by rfl) T.m_normal T.f_normal.kp T.b_normal (ma_cons (me_var 0) ma_nil))) (mss_cons (ms_for PassesOwn.never rfl (mi_rng1 (by rfl) T.n_range me_int) rng1_noOwn (mg_nm (i := 7) sc_heights.nd) (mss_cons (ms_set (i := 8) sc_heights.nd (me_ix (me_var 0) (me_var 7))) (mss_cons (ms_set (i := 9) sc_heights.nd (me_ix (me_var 0) (me_op o_mod (me_op o_add (me_var 7) me_int) me_int))) (mss_cons (ms_if (PW.pt (mw_and (mt_chain o_le o_le (me_var 1) (me_ix (me_var 8) me_int) (me_var 3)) (mw_and1 (mt_chain o_le o_le (me_var 2) (me_ix (me_var 8) me_int) (me_var 4))))) (mss_one (ms_expr (me_append (me_var 5) (ma_cons (me_tup (ma_cons (me_ix (me_var 8) me_int) (ma_cons me_int ma_nil))) ma_nil)))) mss_nil) (mss_cons (ms_expr (me_extend (me_var 5) (ma_cons (me_frz (mf_lc [10] (own := [("at", 10)]) rfl sc_heights.nd (mi_seqC (me_tup (ma_cons (me_var 1) (ma_cons (me_var 3) ma_nil)))) (blkOk_by (by kernel_rfl)) rfl (fun _ _ _ _ _ => (mg_nm (i := 10) sc_heights.nd)) (fun _ _ _ _ _ => mts_nil) (fun _ _ _ _ _ => (me_call (ok_on_edge T) (hr.mono (by decide)) (by rfl) T.m_on_edge T.f_on_edge.kp T.b_on_edge (ma_cons (me_var 8) (ma_cons (me_var 9) (ma_cons me_int (ma_cons (me_var 10) (ma_cons (me_var 2) (ma_cons (me_var 4) ma_nil)))))))) (by decide))) ma_nil))) (mss_one (ms_expr (me_extend (me_var 5) (ma_cons (me_frz (mf_lc [10] (own := [("at", 10)]) rfl sc_heights.nd (mi_seqC (me_tup (ma_cons (me_var 2) (ma_cons (me_var 4) ma_nil)))) (blkOk_by (by kernel_rfl)) rfl (fun _ _ _ _ _ => (mg_nm (i := 10) sc_heights.nd)) (fun _ _ _ _ _ => mts_nil) (fun _ _ _ _ _ => (me_call (ok_on_edge T) (hr.mono (by decide)) (by rfl) T.m_on_edge T.f_on_edge.kp T.b_on_edge (ma_cons (me_var 8) (ma_cons (me_var 9) (ma_cons me_int (ma_cons (me_var 10) (ma_cons (me_var 1) (ma_cons (me_var 3) ma_nil)))))))) (by decide))) ma_nil))))))))) (mss_cons (ms_for PassesOwn.never rfl (mi_seq (me_tup (ma_cons (me_var 1) (ma_cons (me_var 3) ma_nil)))) seq_noOwn (mg_nm (i := 11) sc_heights.nd) (mss_one (ms_expr (me_extend (me_var 5) (ma_cons (me_frz (mf_lc [12] (own := [("z", 12)]) rfl sc_heights.nd (mi_seqC (me_tup (ma_cons (me_var 2) (ma_cons (me_var 4) ma_nil)))) (blkOk_by (by kernel_rfl)) rfl (fun _ _ _ _ _ => (mg_nm (i := 12) sc_heights.nd)) (fun _ _ _ _ _ => mts_nil) (fun _ _ _ _ _ => (me_call (ok_at_corner T) (hr.mono (by decide)) (by rfl) T.m_at_corner T.f_at_corner.kp T.b_at_corner (ma_cons (me_var 0) (ma_cons (me_var 6) (ma_cons (me_var 11) (ma_cons (me_var 12) ma_nil)))))) (by decide))) ma_nil))))) (mss_frz 5 (mss_one (ms_ret (me_frz (mf_lc [13] (own := [("height", 13)]) rfl sc_heights.nd (mi_seqC (me_var 5)) (blkOk_by (by kernel_rfl)) rfl (fun _ _ _ _ _ => (mg_nm (i := 13) sc_heights.nd)) (fun _ _ _ _ _ => (mts_one (mt_notN (me_var 13)))) (fun _ _ _ _ _ => (me_var 13)) (by decide))))))))))
theorem ok_less (T : Txt K mg base) : FnOk P w K mg base CX0 1 T.a_less T.d_less ["one", "other"] (spM 2 K m_less) := fnD_ok T.f_less sc_less rfl rfl fun A outer s H Ee hr =>
  (mss_one (ms_ret (me_cmp o_lt (me_op o_mul (me_ix (me_var 0) me_int) (me_ix (me_var 1) me_int)) (me_op o_mul (me_ix (me_var 1) me_int) (me_ix (me_var 0) me_int)) (nomark _))))
theorem ok_extent (T : Txt K mg base) : FnOk P w K mg base CX0 4 T.a_extent T.d_extent ["triangle", "x0", "z0", "x1", "z1"] (spM 5 K m_extent) := fnD_ok T.f_extent sc_extent rfl rfl fun A outer s H Ee hr =>
  (mss_cons (ms_set (i := 5) sc_extent.nd (me_call (ok_heights T) (hr.mono (by decide)) (by rfl) T.m_heights T.f_heights.kp T.b_heights (ma_cons (me_var 0) (ma_cons (me_var 1) (ma_cons (me_var 2) (ma_cons (me_var 3) (ma_cons (me_var 4) ma_nil))))))) (mss_cons (ms_if (mt_not (mt_tru (me_var 5))) (mss_one (ms_ret me_non)) mss_nil) (mss_cons (ms_set (i := 6) sc_extent.nd (me_ix (me_var 5) me_int)) (mss_cons (ms_set (i := 7) sc_extent.nd (me_ix (me_var 5) me_int)) (mss_cons (ms_for PassesOwn.never rfl (mi_seq (me_frz (mf_slice (me_var 5) (mo_some me_int) mo_none))) seq_noOwn (mg_nm (i := 8) sc_extent.nd) (mss_cons (ms_if (mt_tru (me_call (ok_less T) (hr.mono (by decide)) (by rfl) T.m_less T.f_less.kp T.b_less (ma_cons (me_var 8) (ma_cons (me_var 6) ma_nil)))) (mss_one (ms_set (i := 6) sc_extent.nd (me_var 8))) mss_nil) (mss_one (ms_if (mt_tru (me_call (ok_less T) (hr.mono (by decide)) (by rfl) T.m_less T.f_less.kp T.b_less (ma_cons (me_var 7) (ma_cons (me_var 8) ma_nil)))) (mss_one (ms_set (i := 7) sc_extent.nd (me_var 8))) mss_nil)))) (mss_one (ms_ret (me_tup (ma_cons (me_var 6) (ma_cons (me_var 7) ma_nil))))))))))
theorem ok_law_same (T : Txt K mg base) : FnOk P w K mg base CX0 1 T.a_law_same T.d_law_same ["_law_one", "_law_other"] (spM 2 K m_law_same) := fnD_ok T.f_law_same sc_law_same rfl rfl fun A outer s H Ee hr =>
  (mss_one (ms_ret (me_and (me_cmp o_gt (me_ix (me_var 0) me_int) me_int (nomark _)) (me_one (me_cmp (o_eq hr.units) (me_op o_mul (me_ix (me_var 0) me_int) (me_ix (me_var 1) me_int)) (me_op o_mul (me_ix (me_var 1) me_int) (me_ix (me_var 0) me_int)) (nomark _))))))
theorem ok_law (T : Txt K mg base) : FnOk P w K mg base CX0 6 T.a_law T.d_law ["_law_script"] (spM 1 K m_law) := fnD_ok T.f_law sc_law rfl rfl fun A outer s H Ee hr =>
  (mss_cons (ms_set (i := 1) sc_law.nd (me_call (ok_law_state T) (hr.mono (by decide)) (by rfl) T.m_law_state T.f_law_state.kp T.b_law_state (ma_cons (me_var 0) ma_nil))) (mss_cons (ms_for PassesOwn.never rfl (mi_rng1 (by rfl) T.n_range me_int) rng1_noOwn (mg_nm (i := 2) sc_law.nd) (mss_cons (ms_set (i := 3) sc_law.nd (me_ix (me_frz (mf_disp (ma_cons me_int (ma_cons me_int (ma_cons me_int ma_nil))))) (me_call (ok_law_draw T) (hr.mono (by decide)) (by rfl) T.m_law_draw T.f_law_draw.kp T.b_law_draw (ma_cons (me_var 1) (ma_cons me_int ma_nil))))) (mss_cons (ms_set (i := 4) sc_law.nd (me_call (ok_law_triangle T) (hr.mono (by decide)) (by rfl) T.m_law_triangle T.f_law_triangle.kp T.b_law_triangle (ma_cons (me_var 1) (ma_cons (me_var 3) ma_nil)))) (mss_cons (ms_set (i := 5) sc_law.nd (me_call (ok_law_number T) (hr.mono (by decide)) (by rfl) T.m_law_number T.f_law_number.kp T.b_law_number (ma_cons (me_var 1) (ma_cons (me_var 3) ma_nil)))) (mss_cons (ms_set (i := 6) sc_law.nd (me_call (ok_law_number T) (hr.mono (by decide)) (by rfl) T.m_law_number T.f_law_number.kp T.b_law_number (ma_cons (me_var 1) (ma_cons (me_var 3) ma_nil)))) (mss_cons (ms_set (i := 7) sc_law.nd (me_op o_add (me_op o_add (me_var 5) me_int) (me_call (ok_law_draw T) (hr.mono (by decide)) (by rfl) T.m_law_draw T.f_law_draw.kp T.b_law_draw (ma_cons (me_var 1) (ma_cons (me_ix (me_frz (mf_disp (ma_cons me_int (ma_cons (me_var 3) ma_nil)))) (me_call (ok_law_draw T) (hr.mono (by decide)) (by rfl) T.m_law_draw T.f_law_draw.kp T.b_law_draw (ma_cons (me_var 1) (ma_cons me_int ma_nil)))) ma_nil))))) (mss_cons (ms_set (i := 8) sc_law.nd (me_op o_add (me_op o_add (me_var 6) me_int) (me_call (ok_law_draw T) (hr.mono (by decide)) (by rfl) T.m_law_draw T.f_law_draw.kp T.b_law_draw (ma_cons (me_var 1) (ma_cons (me_ix (me_frz (mf_disp (ma_cons me_int (ma_cons (me_var 3) ma_nil)))) (me_call (ok_law_draw T) (hr.mono (by decide)) (by rfl) T.m_law_draw T.f_law_draw.kp T.b_law_draw (ma_cons (me_var 1) (ma_cons me_int ma_nil)))) ma_nil))))) (mss_cons (ms_set (i := 9) sc_law.nd (me_call (ok_law_extent T) (hr.mono (by decide)) (by rfl) T.m_law_extent T.f_law_extent.kp T.b_law_extent (ma_cons (me_var 4) (ma_cons (me_var 5) (ma_cons (me_var 6) (ma_cons (me_var 7) (ma_cons (me_var 8) ma_nil))))))) (mss_cons (ms_set (i := 10) sc_law.nd (me_call (ok_extent T) (hr.mono (by decide)) (by rfl) T.m_extent T.f_extent.kp T.b_extent (ma_cons (me_var 4) (ma_cons (me_var 5) (ma_cons (me_var 6) (ma_cons (me_var 7) (ma_cons (me_var 8) ma_nil))))))) (mss_cons (ms_if (PW.pt (mw_or (mt_isN (me_var 9)) (mw_or1 (mt_isN (me_var 10))))) (mss_one (ms_if (PW.pt (mw_or (mt_notN (me_var 9)) (mw_or1 (mt_notN (me_var 10))))) (mss_one (ms_ret me_bl)) mss_nil)) (mss_one (ms_if (PW.pt (mw_or (mt_not (mt_tru (me_isi (by rfl) T.n_isinstance (by rfl) T.n_tuple (by decide +kernel) (me_var 10)))) (mw_or (mt_cmp (o_ne hr.units) (me_blt1 f_len (by rfl) T.n_len (by decide +kernel) (me_var 10)) me_int (nomark _)) (mw_or1 (mt_not (mt_tru (me_call (ok_law_same T) (hr.mono (by decide)) (by rfl) T.m_law_same T.f_law_same.kp T.b_law_same (ma_cons (me_ix (me_var 10) me_int) (ma_cons (me_ix (me_var 9) me_int) ma_nil))))))))) (mss_one (ms_ret me_bl)) (mss_one (ms_if (mt_not (mt_tru (me_call (ok_law_same T) (hr.mono (by decide)) (by rfl) T.m_law_same T.f_law_same.kp T.b_law_same (ma_cons (me_ix (me_var 10) me_int) (ma_cons (me_ix (me_var 9) me_int) ma_nil))))) (mss_one (ms_ret me_bl)) mss_nil))))) (mss_cons (ms_set (i := 11) sc_law.nd (me_tup (ma_cons (me_op o_sub (me_call (ok_law_draw T) (hr.mono (by decide)) (by rfl) T.m_law_draw T.f_law_draw.kp T.b_law_draw (ma_cons (me_var 1) (ma_cons me_int ma_nil))) me_int) (ma_cons (me_op o_add me_int (me_call (ok_law_draw T) (hr.mono (by decide)) (by rfl) T.m_law_draw T.f_law_draw.kp T.b_law_draw (ma_cons (me_var 1) (ma_cons me_int ma_nil)))) ma_nil)))) (mss_cons (ms_set (i := 12) sc_law.nd (me_tup (ma_cons (me_op o_sub (me_call (ok_law_draw T) (hr.mono (by decide)) (by rfl) T.m_law_draw T.f_law_draw.kp T.b_law_draw (ma_cons (me_var 1) (ma_cons me_int ma_nil))) me_int) (ma_cons (me_op o_add me_int (me_call (ok_law_draw T) (hr.mono (by decide)) (by rfl) T.m_law_draw T.f_law_draw.kp T.b_law_draw (ma_cons (me_var 1) (ma_cons me_int ma_nil)))) ma_nil)))) (mss_cons (ms_if (mt_cmp (o_eq hr.units) (me_call (ok_law_draw T) (hr.mono (by decide)) (by rfl) T.m_law_draw T.f_law_draw.kp T.b_law_draw (ma_cons (me_var 1) (ma_cons me_int ma_nil))) me_int (nomark _)) (mss_one (ms_set (i := 12) sc_law.nd (me_tup (ma_cons (me_op o_mul me_int (me_ix (me_var 11) me_int)) (ma_cons (me_op o_mul me_int (me_ix (me_var 11) me_int)) ma_nil))))) mss_nil) (mss_cons (ms_set (i := 10) sc_law.nd (me_call (ok_less T) (hr.mono (by decide)) (by rfl) T.m_less T.f_less.kp T.b_less (ma_cons (me_var 11) (ma_cons (me_var 12) ma_nil)))) (mss_one (ms_if (PW.pt (mw_or (mt_not (mt_tru (me_isi (by rfl) T.n_isinstance (by rfl) T.n_bool (by decide +kernel) (me_var 10)))) (mw_or1 (mt_cmp (o_ne hr.units) (me_var 10) (me_cmp o_lt (me_op o_sub (me_op o_mul (me_ix (me_var 11) me_int) (me_ix (me_var 12) me_int)) (me_op o_mul (me_ix (me_var 12) me_int) (me_ix (me_var 11) me_int))) me_int (nomark _)) (nomark _))))) (mss_one (ms_ret me_bl)) mss_nil)))))))))))))))) (mss_one (ms_ret me_bl))))
end
def D_law_state : He.DefD := ⟨("_law_state", none), "_law_state", "_law_state", defArgs s_law_state, defBody s_law_state, defScope s_law_state, [], []⟩
def D_law_draw : He.DefD := ⟨("_law_draw", none), "_law_draw", "_law_draw", defArgs s_law_draw, defBody s_law_draw, defScope s_law_draw, [], []⟩
def D_law_number : He.DefD := ⟨("_law_number", none), "_law_number", "_law_number", defArgs s_law_number, defBody s_law_number, defScope s_law_number, [], []⟩
def D_law_triangle : He.DefD := ⟨("_law_triangle", none), "_law_triangle", "_law_triangle", defArgs s_law_triangle, defBody s_law_triangle, defScope s_law_triangle, [], []⟩
def D_law_beyond : He.DefD := ⟨("_law_beyond", none), "_law_beyond", "_law_beyond", defArgs s_law_beyond, defBody s_law_beyond, defScope s_law_beyond, [], []⟩
def D_law_cut : He.DefD := ⟨("_law_cut", none), "_law_cut", "_law_cut", defArgs s_law_cut, defBody s_law_cut, defScope s_law_cut, [], []⟩
def D_law_clip : He.DefD := ⟨("_law_clip", none), "_law_clip", "_law_clip", defArgs s_law_clip, defBody s_law_clip, defScope s_law_clip, [], []⟩
def D_law_over : He.DefD := ⟨("_law_over", none), "_law_over", "_law_over", defArgs s_law_over, defBody s_law_over, defScope s_law_over, [], []⟩
def D_law_extent : He.DefD := ⟨("_law_extent", none), "_law_extent", "_law_extent", defArgs s_law_extent, defBody s_law_extent, defScope s_law_extent, [], []⟩
def D_minus : He.DefD := ⟨("minus", none), "minus", "minus", defArgs s_minus, defBody s_minus, defScope s_minus, [], []⟩
def D_normal : He.DefD := ⟨("normal", none), "normal", "normal", defArgs s_normal, defBody s_normal, defScope s_normal, [], []⟩
def D_positive : He.DefD := ⟨("positive", none), "positive", "positive", defArgs s_positive, defBody s_positive, defScope s_positive, [], []⟩
def D_on_edge : He.DefD := ⟨("on_edge", none), "on_edge", "on_edge", defArgs s_on_edge, defBody s_on_edge, defScope s_on_edge, [], []⟩
def D_side : He.DefD := ⟨("side", none), "side", "side", defArgs s_side, defBody s_side, defScope s_side, [], []⟩
def D_at_corner : He.DefD := ⟨("at_corner", none), "at_corner", "at_corner", defArgs s_at_corner, defBody s_at_corner, defScope s_at_corner, [], []⟩
def D_heights : He.DefD := ⟨("heights", none), "heights", "heights", defArgs s_heights, defBody s_heights, defScope s_heights, [], []⟩
def D_less : He.DefD := ⟨("less", none), "less", "less", defArgs s_less, defBody s_less, defScope s_less, [], []⟩
def D_extent : He.DefD := ⟨("extent", none), "extent", "extent", defArgs s_extent, defBody s_extent, defScope s_extent, [], []⟩
def D_law_same : He.DefD := ⟨("_law_same", none), "_law_same", "_law_same", defArgs s_law_same, defBody s_law_same, defScope s_law_same, [], []⟩
def D_law : He.DefD := ⟨("law", none), "law", "law", defArgs s_law, defBody s_law, defScope s_law, [], []⟩
def fn_ : List He.DefD := [D_law_state, D_law_draw, D_law_number, D_law_triangle, D_law_beyond, D_law_cut, D_law_clip, D_law_over, D_law_extent, D_minus, D_normal, D_positive, D_on_edge, D_side, D_at_corner, D_heights, D_less, D_extent, D_law_same, D_law]
def fa_ : List He.Fa := [.glo "_law_state", .glo "_law_draw", .glo "_law_number", .glo "_law_triangle", .glo "_law_beyond", .glo "_law_cut", .glo "_law_clip", .glo "_law_over", .glo "_law_extent", .glo "minus", .glo "normal", .glo "positive", .glo "on_edge", .glo "side", .glo "at_corner", .glo "heights", .glo "less", .glo "extent", .glo "_law_same", .glo "law", .free "abs", .free "bool", .free "int", .free "isinstance", .free "len", .free "max", .free "min", .free "range", .free "tuple"]
def tf_ : List (He.Defn × Str) := []
def ex_ (K : PySem.W.Frag) : Bool := (csD K tf_).all fun z => (csD K tf_).all fun y => !decide (z.p = y.p) || decide (z.q = y.q)
abbrev R_ : PySem.W.OpenRow := PySem.W.OpenLaw.row PySem.Challenge.rw_footpath_k06_extents
abbrev hk_ : PySem.W.Hook := He.hookX 6 fa_ fn_ [] (tf_.map Prod.fst) ex_
def ob_ (s : PySem.W.SharedT) : He.AlX := He.obsX 6 fa_ fn_ [] (tf_.map Prod.fst) ex_ (HandSHeadRun.getT s)
theorem ob_eq (s : PySem.W.SharedT) : ob_ s = hk_.obs s.abs := He.obsX_eq (HandSHeadRun.getT_eq s)
def loose_ : List Str := ["minus", "normal", "less", "positive", "on_edge", "side", "at_corner", "heights", "extent", "_law_state", "_law_draw", "_law_beyond", "_law_cut", "_law_clip", "_law_over", "_law_extent", "_law_number", "_law_triangle", "_law_same"]
set_option maxHeartbeats 0 in
theorem run_ (w : World) : HandSHeadRun.RunEq R_ (PySem.W.view R_.prog [21]) hk_ ob_ 4000 loose_ w := by
  intro os
  kernel_rfl
set_option maxHeartbeats 0 in
theorem facts {P : Program} {w : World} {K : PySem.W.Frag} {h : Heap} {mg : Str → Option Value} {f : Addr} (X : K.In h) (G : h.Ns mainGlobals mg) (hfa : mg "law" = some (.ref f)) (c : He.SaysX fa_ fn_ [] (tf_.map Prod.fst) ex_ w h K) :
    ∃ (K : PySem.W.Frag) (fd : FuncData) (cs : List Cs) (cl : List (Str × Addr)), K.In h ∧ CsOk K h cs ∧ (∀ (s : Shared) (u : Value), BindsTo s fd ⟨[u], []⟩ [("_law_script", u)]) ∧ ∀ base : Heap, K.In base → base.Ns mainGlobals mg → (∀ z ∈ cs, LamX.TabB base mg z.c z.p) → GOk P w K mg base 6 f fd ["_law_script"] (spM 1 ⟨K, ⟨tbs cs, cl⟩⟩ m_law) := by
  have cd := c.t.d
  obtain ⟨fd0, F0⟩ := cd.def_ 0 (d := D_law_state) rfl
  obtain ⟨fd1, F1⟩ := cd.def_ 1 (d := D_law_draw) rfl
  obtain ⟨fd2, F2⟩ := cd.def_ 2 (d := D_law_number) rfl
  obtain ⟨fd3, F3⟩ := cd.def_ 3 (d := D_law_triangle) rfl
  obtain ⟨fd4, F4⟩ := cd.def_ 4 (d := D_law_beyond) rfl
  obtain ⟨fd5, F5⟩ := cd.def_ 5 (d := D_law_cut) rfl
  obtain ⟨fd6, F6⟩ := cd.def_ 6 (d := D_law_clip) rfl
  obtain ⟨fd7, F7⟩ := cd.def_ 7 (d := D_law_over) rfl
  obtain ⟨fd8, F8⟩ := cd.def_ 8 (d := D_law_extent) rfl
  obtain ⟨fd9, F9⟩ := cd.def_ 9 (d := D_minus) rfl
  obtain ⟨fd10, F10⟩ := cd.def_ 10 (d := D_normal) rfl
  obtain ⟨fd11, F11⟩ := cd.def_ 11 (d := D_positive) rfl
  obtain ⟨fd12, F12⟩ := cd.def_ 12 (d := D_on_edge) rfl
  obtain ⟨fd13, F13⟩ := cd.def_ 13 (d := D_side) rfl
  obtain ⟨fd14, F14⟩ := cd.def_ 14 (d := D_at_corner) rfl
  obtain ⟨fd15, F15⟩ := cd.def_ 15 (d := D_heights) rfl
  obtain ⟨fd16, F16⟩ := cd.def_ 16 (d := D_less) rfl
  obtain ⟨fd17, F17⟩ := cd.def_ 17 (d := D_extent) rfl
  obtain ⟨fd18, F18⟩ := cd.def_ 18 (d := D_law_same) rfl
  obtain ⟨fd19, F19⟩ := cd.def_ 19 (d := D_law) rfl
  have e := hfa.symm.trans (He.glo_ok X G (cd.fact 19 (f := .glo "law") rfl))
  cases e
  have hb := F19.bindsA (ps := ["_law_script"]) fun _ _ _ _ _ _ us hl => match us, hl with | [_], _ => rfl
  refine ⟨K, fd19, csD K tf_, [], X, csD_ok X c ?_, fun s v => hb s [v] rfl, fun base _ _ hT => ?_⟩
  · intro z hz y hy e
    have h1 := List.all_eq_true.mp (List.all_eq_true.mp c.more z hz) y hy
    rw [Bool.or_eq_true] at h1
    rcases h1 with h1 | h1
    · rw [decide_eq_true e] at h1
      cases h1
    · exact of_decide_eq_true h1
  let T : Txt ⟨K, ⟨tbs (csD K tf_), []⟩⟩ mg base := {
    a_law_state := _, d_law_state := _, f_law_state := F0,
    m_law_state := He.glo_ok X G (cd.fact 0 (f := .glo "_law_state") rfl),
    b_law_state := F0.bindsN (ps := ["_law_script"]) fun _ _ _ _ _ _ us hl => match us, hl with | [_], _ => rfl,
    a_law_draw := _, d_law_draw := _, f_law_draw := F1,
    m_law_draw := He.glo_ok X G (cd.fact 1 (f := .glo "_law_draw") rfl),
    b_law_draw := F1.bindsN (ps := ["_law_state_here", "_law_many"]) fun _ _ _ _ _ _ us hl => match us, hl with | [_, _], _ => rfl,
    a_law_number := _, d_law_number := _, f_law_number := F2,
    m_law_number := He.glo_ok X G (cd.fact 2 (f := .glo "_law_number") rfl),
    b_law_number := F2.bindsN (ps := ["_law_state_here", "_law_most"]) fun _ _ _ _ _ _ us hl => match us, hl with | [_, _], _ => rfl,
    a_law_triangle := _, d_law_triangle := _, f_law_triangle := F3,
    m_law_triangle := He.glo_ok X G (cd.fact 3 (f := .glo "_law_triangle") rfl),
    b_law_triangle := F3.bindsN (ps := ["_law_state_here", "_law_most"]) fun _ _ _ _ _ _ us hl => match us, hl with | [_, _], _ => rfl,
    a_law_beyond := _, d_law_beyond := _, f_law_beyond := F4,
    m_law_beyond := He.glo_ok X G (cd.fact 4 (f := .glo "_law_beyond") rfl),
    b_law_beyond := F4.bindsN (ps := ["_law_point", "_law_axis", "_law_sign", "_law_at"]) fun _ _ _ _ _ _ us hl => match us, hl with | [_, _, _, _], _ => rfl,
    a_law_cut := _, d_law_cut := _, f_law_cut := F5,
    m_law_cut := He.glo_ok X G (cd.fact 5 (f := .glo "_law_cut") rfl),
    b_law_cut := F5.bindsN (ps := ["_law_one", "_law_other", "_law_axis", "_law_sign", "_law_at"]) fun _ _ _ _ _ _ us hl => match us, hl with | [_, _, _, _, _], _ => rfl,
    a_law_clip := _, d_law_clip := _, f_law_clip := F6,
    m_law_clip := He.glo_ok X G (cd.fact 6 (f := .glo "_law_clip") rfl),
    b_law_clip := F6.bindsN (ps := ["_law_shape", "_law_axis", "_law_sign", "_law_at"]) fun _ _ _ _ _ _ us hl => match us, hl with | [_, _, _, _], _ => rfl,
    a_law_over := _, d_law_over := _, f_law_over := F7,
    m_law_over := He.glo_ok X G (cd.fact 7 (f := .glo "_law_over") rfl),
    b_law_over := F7.bindsN (ps := ["_law_triangle_here", "_law_x0", "_law_z0", "_law_x1", "_law_z1"]) fun _ _ _ _ _ _ us hl => match us, hl with | [_, _, _, _, _], _ => rfl,
    a_law_extent := _, d_law_extent := _, f_law_extent := F8,
    m_law_extent := He.glo_ok X G (cd.fact 8 (f := .glo "_law_extent") rfl),
    b_law_extent := F8.bindsN (ps := ["_law_triangle_here", "_law_x0", "_law_z0", "_law_x1", "_law_z1"]) fun _ _ _ _ _ _ us hl => match us, hl with | [_, _, _, _, _], _ => rfl,
    a_minus := _, d_minus := _, f_minus := F9,
    m_minus := He.glo_ok X G (cd.fact 9 (f := .glo "minus") rfl),
    b_minus := F9.bindsN (ps := ["p", "q"]) fun _ _ _ _ _ _ us hl => match us, hl with | [_, _], _ => rfl,
    a_normal := _, d_normal := _, f_normal := F10,
    m_normal := He.glo_ok X G (cd.fact 10 (f := .glo "normal") rfl),
    b_normal := F10.bindsN (ps := ["triangle"]) fun _ _ _ _ _ _ us hl => match us, hl with | [_], _ => rfl,
    a_positive := _, d_positive := _, f_positive := F11,
    m_positive := He.glo_ok X G (cd.fact 11 (f := .glo "positive") rfl),
    b_positive := F11.bindsN (ps := ["number", "den"]) fun _ _ _ _ _ _ us hl => match us, hl with | [_, _], _ => rfl,
    a_on_edge := _, d_on_edge := _, f_on_edge := F12,
    m_on_edge := He.glo_ok X G (cd.fact 12 (f := .glo "on_edge") rfl),
    b_on_edge := F12.bindsN (ps := ["p", "q", "axis", "at", "low", "high"]) fun _ _ _ _ _ _ us hl => match us, hl with | [_, _, _, _, _, _], _ => rfl,
    a_side := _, d_side := _, f_side := F13,
    m_side := He.glo_ok X G (cd.fact 13 (f := .glo "side") rfl),
    b_side := F13.bindsN (ps := ["p", "q", "x", "z"]) fun _ _ _ _ _ _ us hl => match us, hl with | [_, _, _, _], _ => rfl,
    a_at_corner := _, d_at_corner := _, f_at_corner := F14,
    m_at_corner := He.glo_ok X G (cd.fact 14 (f := .glo "at_corner") rfl),
    b_at_corner := F14.bindsN (ps := ["triangle", "up", "x", "z"]) fun _ _ _ _ _ _ us hl => match us, hl with | [_, _, _, _], _ => rfl,
    a_heights := _, d_heights := _, f_heights := F15,
    m_heights := He.glo_ok X G (cd.fact 15 (f := .glo "heights") rfl),
    b_heights := F15.bindsN (ps := ["triangle", "x0", "z0", "x1", "z1"]) fun _ _ _ _ _ _ us hl => match us, hl with | [_, _, _, _, _], _ => rfl,
    a_less := _, d_less := _, f_less := F16,
    m_less := He.glo_ok X G (cd.fact 16 (f := .glo "less") rfl),
    b_less := F16.bindsN (ps := ["one", "other"]) fun _ _ _ _ _ _ us hl => match us, hl with | [_, _], _ => rfl,
    a_extent := _, d_extent := _, f_extent := F17,
    m_extent := He.glo_ok X G (cd.fact 17 (f := .glo "extent") rfl),
    b_extent := F17.bindsN (ps := ["triangle", "x0", "z0", "x1", "z1"]) fun _ _ _ _ _ _ us hl => match us, hl with | [_, _, _, _, _], _ => rfl,
    a_law_same := _, d_law_same := _, f_law_same := F18,
    m_law_same := He.glo_ok X G (cd.fact 18 (f := .glo "_law_same") rfl),
    b_law_same := F18.bindsN (ps := ["_law_one", "_law_other"]) fun _ _ _ _ _ _ us hl => match us, hl with | [_, _], _ => rfl,
    a_law := _, d_law := _, f_law := F19,
    m_law := He.glo_ok X G (cd.fact 19 (f := .glo "law") rfl),
    b_law := F19.bindsN (ps := ["_law_script"]) fun _ _ _ _ _ _ us hl => match us, hl with | [_], _ => rfl,
    n_abs := He.free_ok X G (cd.fact 20 (f := .free "abs") rfl),
    n_bool := He.free_ok X G (cd.fact 21 (f := .free "bool") rfl),
    n_int := He.free_ok X G (cd.fact 22 (f := .free "int") rfl),
    n_isinstance := He.free_ok X G (cd.fact 23 (f := .free "isinstance") rfl),
    n_len := He.free_ok X G (cd.fact 24 (f := .free "len") rfl),
    n_max := He.free_ok X G (cd.fact 25 (f := .free "max") rfl),
    n_min := He.free_ok X G (cd.fact 26 (f := .free "min") rfl),
    n_range := He.free_ok X G (cd.fact 27 (f := .free "range") rfl),
    n_tuple := He.free_ok X G (cd.fact 28 (f := .free "tuple") rfl) }
  exact FnOk.g (ok_law T)
end W

open PySem PySem.W PyProof.Rows
set_option maxRecDepth 100000 in
set_option maxHeartbeats 0 in
theorem PySem.Challenge.cw_footpath_k06_extents_holds : PySem.Challenge.rw_footpath_k06_extents.Holds := by
  w_on; o_law
  refine HandSHeadRun.head_any (r := OpenLaw.row PySem.Challenge.rw_footpath_k06_extents) (q := view (OpenLaw.row PySem.Challenge.rw_footpath_k06_extents).prog [21]) (H := W.hk_) (ob := W.ob_) (M := 4000) (loose := W.loose_) (d := HandSHeadRun.topDef (OpenLaw.row PySem.Challenge.rw_footpath_k06_extents).prog 21) (kwd := []) W.ob_eq
    (by kernel_rfl) (fun s => by kernel_rfl) W.run_ (by kernel_rfl) (by kernel_rfl) (by kernel_rfl) (by rfl) (by first | assumption | decide +kernel) (by decide +kernel) ⟨rfl, rfl, rfl, rfl, rfl, by decide +kernel⟩ ?hw ?hc
  case hw => w_witness2
  case hc =>
    refine Mi.walkX (l := PySem.Challenge.rw_footpath_k06_extents) (k := 6) (x := "_law_script") (mf := W.m_law) rfl (by kernel_rfl) ⟨rfl, by decide, by decide⟩ ?F W.law_true
    intro w mg fa hp Y G hmg0
    obtain ⟨K, KX, c⟩ := Y
    have hmg : mg ("law" : PySem.Str) = some (.ref fa) := by
      have e : (HandSHeadRun.topDef (OpenLaw.row PySem.Challenge.rw_footpath_k06_extents).prog 21).name = ("law" : PySem.Str) := by kernel_rfl
      rw [← e]
      exact hmg0
    exact W.facts KX G hmg c
