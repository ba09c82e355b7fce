import PyProof.Rows.All
import Wide.All
import OpenK.AllK
import Wide.FinOn
import HandS.ForMost
import HandS.Wide
import HandS.Flow
import HandS.Lambda
import HandS.EndTab
import HandS.IsInst
import HandS.NoneIn
import HandS.Deep
import KE.SortData
import KE.SortKeyHeap
import PyProof.ReprLen
import HandS.Dict
import HandS.Iter
import KE.KDictSum
import KE.KDictCopyH
import KE.KDictExact
import KE.KRevSl
import PyProof.Transfer
import HandS.Style
import KE.DataMinMax
import KE.DatumOrd
import PySem.Challenge.RW_footpath_k24_boxes_anywhere
set_option Elab.async false
set_option linter.all false
set_option maxRecDepth 100000
/-! Mi, part A: data, the relation to the heap, the state. -/
namespace Mi
open PySem PySem.Spec PyProof.Rows L2

/-- what is written, and the tables of code objects (with the code's name) that a lambda's making writes at -/
structure Kx where
  k : PySem.W.Frag
  tb : List (Addr × Str)
instance : Coe Kx PySem.W.Frag := ⟨Kx.k⟩
@[reducible] def kx (X : Cx) (Tb : List (Addr × Str)) : Kx := ⟨X.K, Tb⟩
/-- data. kt: a written tuple; lst: a list that is not changed any more; scr: the script; ref: an object of the shared heap; own: the object that a slot of the frame owns -/
inductive D where
  | non | bl (b : Bool) | int (i : Int) | str (x : Str)
  | tup (xs : List D) | kt (xs : List D) | lst (xs : List D) | scr (xs : List D)
  | ref (n : Nat) | own (i : Nat)
  | dk (kvs : List (Key × D)) | dt (kvs : List (List Key × D))
  | ins (C : Addr) (fs : List (Str × D))

mutual
inductive Rp (K : Kx) (F : Hp) (rho : List Addr) : D → V → Prop
  | non : Rp K F rho .non .non
  | bl (b : Bool) : Rp K F rho (.bl b) (.bl b)
  | int (i : Int) : Rp K F rho (.int i) (.int i)
  | str (x : Str) : Rp K F rho (.str x) (.str x)
  | tup {a : Addr} {xs : List V} {ds : List D} : F a = some (.tup xs) → Rps K F rho ds xs → Rp K F rho (.tup ds) (.ref a)
  | kt {a : Addr} {xs : List V} {ds : List D} : SqT K F a xs → Rps K F rho ds xs → Rp K F rho (.kt ds) (.ref a)
  | lst {a : Addr} {xs : List V} {ds : List D} : F a = some (.lst xs) → Rps K F rho ds xs → Rp K F rho (.lst ds) (.ref a)
  | scr {a : Addr} {xs : List V} {ds : List D} : SqL K F a xs → Rps K F rho ds xs → Rp K F rho (.scr ds) (.ref a)
  | ref {n : Nat} {a : Addr} : rho[n]? = some a → Rp K F rho (.ref n) (.ref a)
  | dk {a : Addr} {es : List (Key × V)} {kvs : List (Key × D)} {o : Obj} : F a = some (.frz o (.dK es)) → es.map Prod.fst = kvs.map Prod.fst → Rps K F rho (kvs.map Prod.snd) (es.map Prod.snd) → Rp K F rho (.dk kvs) (.ref a)
  | dt {a : Addr} {es : List (List Key × V)} {kvs : List (List Key × D)} {o : Obj} : F a = some (.frz o (.dT es)) → es.map Prod.fst = kvs.map Prod.fst → Rps K F rho (kvs.map Prod.snd) (es.map Prod.snd) → Rp K F rho (.dt kvs) (.ref a)
  | ins {a C dx : Addr} {es : List (Str × V)} {fs : List (Str × D)} : F a = some (.ins C dx es) → es.map Prod.fst = fs.map Prod.fst → Rps K F rho (fs.map Prod.snd) (es.map Prod.snd) → Rp K F rho (.ins C fs) (.ref a)
inductive Rps (K : Kx) (F : Hp) (rho : List Addr) : List D → List V → Prop
  | nil : Rps K F rho [] []
  | cons {d : D} {v : V} {ds : List D} {vs : List V} : Rp K F rho d v → Rps K F rho ds vs → Rps K F rho (d :: ds) (v :: vs)
end

theorem Same.rd {H H' : Hp} {a : Addr} {u : HO} (e : Same H H') (h : Rd H a u) : Rd H' a u := by
  rcases h with h | ⟨o, h⟩
  · exact .inl (e _ _ h)
  · exact .inr ⟨o, e _ _ h⟩
theorem Same.sqt {K : Kx} {H H' : Hp} {a : Addr} {xs : List V} (e : Same H H') (h : SqT K H a xs) : SqT K H' a xs := by
  rcases h with (h | ⟨o, h⟩) | h
  · exact .inl (.inl (e _ _ h))
  · exact .inl (.inr ⟨o, e _ _ h⟩)
  · exact .inr h

section
variable {K : Kx} {F F' : Hp} {rho rho' : List Addr}
theorem pre_get {a : Addr} {n : Nat} (p : rho <+: rho') (h : rho[n]? = some a) : rho'[n]? = some a := by
  obtain ⟨t, rfl⟩ := p
  rw [List.getElem?_append_left (List.getElem?_eq_some_iff.mp h).1]
  exact h
mutual
theorem Rp.mono (e : Same F F') (p : rho <+: rho') : ∀ {d : D} {v : V}, Rp K F rho d v → Rp K F' rho' d v
  | _, _, .non => .non
  | _, _, .bl b => .bl b
  | _, _, .int i => .int i
  | _, _, .str x => .str x
  | _, _, .tup h r => .tup (e _ _ h) (Rps.mono e p r)
  | _, _, .kt h r => .kt (Same.sqt e h) (Rps.mono e p r)
  | _, _, .lst h r => .lst (e _ _ h) (Rps.mono e p r)
  | _, _, .scr h r => .scr (e.seq h) (Rps.mono e p r)
  | _, _, .ref h => .ref (pre_get p h)
  | _, _, .dk h k r => .dk (e _ _ h) k (Rps.mono e p r)
  | _, _, .dt h k r => .dt (e _ _ h) k (Rps.mono e p r)
  | _, _, .ins h k r => .ins (e _ _ h) k (Rps.mono e p r)
theorem Rps.mono (e : Same F F') (p : rho <+: rho') : ∀ {ds : List D} {vs : List V}, Rps K F rho ds vs → Rps K F' rho' ds vs
  | _, _, .nil => .nil
  | _, _, .cons h r => .cons (Rp.mono e p h) (Rps.mono e p r)
end
theorem Rps.length : ∀ {ds : List D} {vs : List V}, Rps K F rho ds vs → ds.length = vs.length
  | _, _, .nil => rfl
  | _, _, .cons _ r => by rw [List.length_cons, List.length_cons, Rps.length r]
theorem Rps.get : ∀ {ds : List D} {vs : List V} {i : Nat} {d : D}, Rps K F rho ds vs → ds[i]? = some d → ∃ v, vs[i]? = some v ∧ Rp K F rho d v
  | _, _, _, _, .nil, h => by simp at h
  | _, _, 0, d, .cons r _, h => by
    simp at h
    subst h
    exact ⟨_, rfl, r⟩
  | _, _, i + 1, d, .cons _ r, h => by
    obtain ⟨v, h1, h2⟩ := Rps.get (i := i) (d := d) r (by simpa using h)
    exact ⟨v, by simpa using h1, h2⟩
theorem Rps.get' : ∀ {ds : List D} {vs : List V} {i : Nat} {v : V}, Rps K F rho ds vs → vs[i]? = some v → ∃ d, ds[i]? = some d ∧ Rp K F rho d v
  | _, _, _, _, .nil, h => by simp at h
  | _, _, 0, d, .cons r _, h => by
    simp at h
    subst h
    exact ⟨_, rfl, r⟩
  | _, _, i + 1, d, .cons _ r, h => by
    obtain ⟨v, h1, h2⟩ := Rps.get' (i := i) (v := d) r (by simpa using h)
    exact ⟨v, by simpa using h1, h2⟩
theorem Rps.append : ∀ {ds es : List D} {vs us : List V}, Rps K F rho ds vs → Rps K F rho es us → Rps K F rho (ds ++ es) (vs ++ us)
  | _, _, _, _, .nil, s => s
  | _, _, _, _, .cons h r, s => .cons h (Rps.append r s)
theorem Rps.one {d : D} {v : V} (h : Rp K F rho d v) : Rps K F rho [d] [v] := .cons h .nil
theorem Rps.set {d : D} {v : V} (h : Rp K F rho d v) : ∀ {ds : List D} {vs : List V} (i : Nat), Rps K F rho ds vs → Rps K F rho (ds.set i d) (vs.set i v)
  | _, _, _, .nil => .nil
  | _, _, 0, .cons _ r => .cons h r
  | _, _, i + 1, .cons q r => .cons q (Rps.set h i r)
theorem Rps.eraseIdx : ∀ {ds : List D} {vs : List V} (i : Nat), Rps K F rho ds vs → Rps K F rho (ds.eraseIdx i) (vs.eraseIdx i)
  | _, _, _, .nil => .nil
  | _, _, 0, .cons _ r => r
  | _, _, i + 1, .cons q r => .cons q (Rps.eraseIdx i r)
theorem Rps.take : ∀ {ds : List D} {vs : List V} (i : Nat), Rps K F rho ds vs → Rps K F rho (ds.take i) (vs.take i)
  | _, _, 0, _ => .nil
  | _, _, _ + 1, .nil => .nil
  | _, _, i + 1, .cons q r => .cons q (Rps.take i r)
theorem Rps.drop : ∀ {ds : List D} {vs : List V} (i : Nat), Rps K F rho ds vs → Rps K F rho (ds.drop i) (vs.drop i)
  | _, _, 0, r => r
  | _, _, _ + 1, .nil => .nil
  | _, _, i + 1, .cons _ r => Rps.drop i r
theorem Rps.dropLast {ds : List D} {vs : List V} (r : Rps K F rho ds vs) : Rps K F rho ds.dropLast vs.dropLast := by
  rw [List.dropLast_eq_take, List.dropLast_eq_take, r.length]
  exact r.take _
theorem Rps.reverse : ∀ {ds : List D} {vs : List V}, Rps K F rho ds vs → Rps K F rho ds.reverse vs.reverse
  | _, _, .nil => .nil
  | _, _, .cons h r => by
    rw [List.reverse_cons, List.reverse_cons]
    exact (Rps.reverse r).append (.one h)
theorem Rps.ints : ∀ (ns : List Int), Rps K F rho (ns.map D.int) (ns.map V.int)
  | [] => .nil
  | n :: ns => .cons (.int n) (Rps.ints ns)
theorem Rps.ints_inv : ∀ {ns : List Int} {vs : List V}, Rps K F rho (ns.map D.int) vs → vs = ns.map V.int
  | [], _, .nil => rfl
  | n :: ns, _, .cons h r => by
    cases h
    rw [Rps.ints_inv r]
    rfl
end

/-- an object that may be changed, by its content -/
def Ob (K : Kx) (F : Hp) (rho : List Addr) (H : Hp) (a : Addr) : D → Prop
  | .lst ds => ∃ xs, H a = some (.lst xs) ∧ Rps K F rho ds xs
  | .dk kvs => ∃ es : List (Key × V), H a = some (.dK es) ∧ es.map Prod.fst = kvs.map Prod.fst ∧ Rps K F rho (kvs.map Prod.snd) (es.map Prod.snd)
  | .dt kvs => ∃ es : List (List Key × V), H a = some (.dT es) ∧ es.map Prod.fst = kvs.map Prod.fst ∧ Rps K F rho (kvs.map Prod.snd) (es.map Prod.snd)
  | .ins C fs => ∃ (dx : Addr) (es : List (Str × V)), H a = some (.ins C dx es) ∧ es.map Prod.fst = fs.map Prod.fst ∧ Rps K F rho (fs.map Prod.snd) (es.map Prod.snd)
  | _ => False

/-- a slot of the frame -/
inductive Sl where
  | no | val (d : D) | own (d : D)
/-- the state: the frame's slots, the shared heap -/
structure Z where
  s : List Sl
  h : List D

/-- the tables: each code object that one tells is known for ever -/
structure TbOk (K : Kx) (F H : Hp) : Prop where
  tb : ∀ p ∈ K.tb, ∃ ps : Array Value, H p.1 = some (.tbl ps) ∧ TriplesOk ps.toList ∧ ∀ (pos : Pos) (cv : Value), codeAmong pos ps.toList = some cv → ∃ c, cv = .ref c ∧ F c = some (LamX.CodeO c p.2)
  un : ∀ p ∈ K.tb, ∀ q ∈ K.tb, p.1 = q.1 → p.2 = q.2
  nf : ∀ p ∈ K.tb, F p.1 = none
/-- the shared heap -/
structure Rh (K : Kx) (F : Hp) (rho : List Addr) (h : List D) (H : Hp) : Prop where
  fro : Same F H
  len : h.length = rho.length
  obs : ∀ (n : Nat) (d : D) (a : Addr), h[n]? = some d → rho[n]? = some a → Ob K F rho H a d
  inj : ∀ (i j : Nat) (a : Addr), rho[i]? = some a → rho[j]? = some a → i = j
  nf : ∀ (n : Nat) (a : Addr), rho[n]? = some a → F a = none
  tb : TbOk K F H
  tr : ∀ p ∈ K.tb, ∀ n : Nat, ¬ rho[n]? = some p.1

/-- the base of a frame (or of a part of it): what may be changed is mu or new -/
structure Bs where
  H0 : Hp
  F0 : Hp
  r0 : List Addr
  mu : Addr → Prop

def SlOk (K : Kx) (F : Hp) (rho : List Addr) (om : Nat → Option Addr) (H : Hp) (i : Nat) (o : Option (Option V)) : Sl → Prop
  | .no => True
  | .val d => ∃ v, o = some (some v) ∧ Rp K F rho d v
  | .own d => ∃ a, om i = some a ∧ o = some (some (.ref a)) ∧ Ob K F rho H a d

/-- no tuple -/
@[reducible] def NT (o : HO) : Prop := ∀ xs, o ≠ .tup xs
structure Rl (K : Kx) (B : Bs) (F : Hp) (rho : List Addr) (om : Nat → Option Addr) (z : Z) (σ : L2.St) (H : Hp) : Prop where
  rh : Rh K F rho z.h H
  len : z.s.length = σ.length
  sl : ∀ (i : Nat) (x : Sl), z.s[i]? = some x → SlOk K F rho om H i σ[i]? x
  oj : ∀ (i j : Nat) (a : Addr), om i = some a → om j = some a → i = j
  orr : ∀ (i n : Nat) (a : Addr), om i = some a → ¬ rho[n]? = some a
  off : ∀ (i : Nat) (a : Addr), om i = some a → F a = none
  oth : ∀ (i : Nat) (a : Addr), om i = some a → ∃ o, H a = some o ∧ NT o
  frm : ∀ (a : Addr) (o : HO), B.H0 a = some o → ¬ B.mu a → H a = some o
  exf : Same B.F0 F
  exr : B.r0 <+: rho
  nF : ∀ (a : Addr) (o : HO), B.H0 a = some o → NT o → B.F0 a = none → ¬ B.mu a → F a = none
  nr : ∀ (n : Nat) (a : Addr), rho[n]? = some a → B.mu a ∨ B.H0 a = none
  no : ∀ (i : Nat) (a : Addr), om i = some a → B.mu a ∨ B.H0 a = none
  ow : ∀ (i : Nat) (a : Addr), om i = some a → ∃ d, z.s[i]? = some (.own d)
  to : ∀ p ∈ K.tb, ∀ i : Nat, ¬ om i = some p.1
  mt : ∀ p ∈ K.tb, B.mu p.1

/-- a value in passing: it may be the object that a slot owns -/
inductive Rv (K : Kx) (F : Hp) (rho : List Addr) (om : Nat → Option Addr) : D → V → Prop
  | pure {d : D} {v : V} : Rp K F rho d v → Rv K F rho om d v
  | own {i : Nat} {a : Addr} : om i = some a → Rv K F rho om (.own i) (.ref a)
theorem Rv.mono {K : Kx} {F F' : Hp} {rho rho' : List Addr} {om : Nat → Option Addr} (e : Same F F') (p : rho <+: rho') {d : D} {v : V} (h : Rv K F rho om d v) : Rv K F' rho' om d v := by
  cases h with
  | pure h => exact .pure (h.mono e p)
  | own h => exact .own h

section
variable {K : Kx} {B : Bs} {F F' : Hp} {rho rho' : List Addr} {om om' : Nat → Option Addr} {z z' : Z} {σ σ' : L2.St} {H H' : Hp} {a p : Addr} {d : D} {v : V}
theorem Ob.mono (e : Same F F') (q : rho <+: rho') (h1 : H' a = H a) (h : Ob K F rho H a d) : Ob K F' rho' H' a d := by
  cases d <;> try exact h.elim
  · obtain ⟨xs, e1, r⟩ := h
    exact ⟨xs, h1.trans e1, r.mono e q⟩
  · obtain ⟨es, e1, k, r⟩ := h
    exact ⟨es, h1.trans e1, k, r.mono e q⟩
  · obtain ⟨es, e1, k, r⟩ := h
    exact ⟨es, h1.trans e1, k, r.mono e q⟩
  · obtain ⟨dx, es, e1, k, r⟩ := h
    exact ⟨dx, es, h1.trans e1, k, r.mono e q⟩
theorem Ob.there (h : Ob K F rho H a d) : ∃ o, H a = some o ∧ NT o := by
  cases d <;> try exact h.elim
  · obtain ⟨xs, e1, r⟩ := h
    exact ⟨_, e1, fun _ e => nomatch e⟩
  · obtain ⟨es, e1, r⟩ := h
    exact ⟨_, e1, fun _ e => nomatch e⟩
  · obtain ⟨es, e1, r⟩ := h
    exact ⟨_, e1, fun _ e => nomatch e⟩
  · obtain ⟨dx, es, e1, r⟩ := h
    exact ⟨_, e1, fun _ e => nomatch e⟩
theorem Rh.there (r : Rh K F rho z.h H) {n : Nat} (h : rho[n]? = some a) : ∃ o, H a = some o ∧ NT o := by
  have hl : n < z.h.length := by rw [r.len]; exact (List.getElem?_eq_some_iff.mp h).1
  exact (r.obs n z.h[n] a (List.getElem?_eq_getElem hl) h).there
theorem Rl.fresh0 (R : Rl K B F rho om z σ H) (h : H p = none) : B.H0 p = none ∨ B.mu p := by
  cases q : B.H0 p with
  | none => exact .inl rfl
  | some o =>
    by_cases m : B.mu p
    · exact .inr m
    · rw [R.frm p o q m] at h
      cases h
end
theorem Ob.nt {K : Kx} {F H : Hp} {rho : List Addr} {a : Addr} {d : D} {o : HO} (h : Ob K F rho H a d) (e : H a = some o) : NT o := by
  obtain ⟨o', e', n⟩ := h.there
  rw [e] at e'
  cases e'
  exact n
theorem upd_same' {H : Hp} {a : Addr} {o : HO} : upd H a o a = some o := upd_same
theorem Same.newu {H : Hp} {p : Addr} {o : HO} (h : H p = none) : Same H (upd H p o) := fun a u e => by
  rw [upd_ne (ne_of_none e h)]
  exact e
theorem Same.both {F H : Hp} {p : Addr} {o : HO} (e : Same F H) (h : H p = none) : Same (upd F p o) (upd H p o) := fun a u q => by
  by_cases c : a = p
  · subst c
    rw [upd_same] at q
    rw [upd_same]
    exact q
  · rw [upd_ne c] at q
    rw [upd_ne c]
    exact e _ _ q
theorem Same.upd_out {F H : Hp} {p : Addr} {o : HO} (e : Same F H) (h : F p = none) : Same F (upd H p o) := fun a u q => by
  rw [upd_ne (ne_of_none q h)]
  exact e _ _ q
theorem Same.noneOf {F H : Hp} (e : Same F H) {p : Addr} (h : H p = none) : F p = none := e.free h
end Mi

set_option Elab.async false
set_option linter.all false
set_option maxRecDepth 100000
/-! Mi, part B: how the state goes on: a new object, a slot that is set, an object that is changed, a call. -/
namespace Mi
open PySem PySem.Spec PyProof.Rows L2

/-- an object that is there, of which nobody knows -/
structure Fresh (K : Kx) (B : Bs) (F : Hp) (rho : List Addr) (om : Nat → Option Addr) (H : Hp) (p : Addr) : Prop where
  f : F p = none
  r : ∀ n : Nat, ¬ rho[n]? = some p
  o : ∀ i : Nat, ¬ om i = some p
  b : B.mu p ∨ B.H0 p = none
  t : ∃ u, H p = some u ∧ NT u
  k : ∀ q ∈ K.tb, ¬ q.1 = p

def omSet (om : Nat → Option Addr) (i : Nat) (x : Option Addr) : Nat → Option Addr := fun j => if j = i then x else om j
theorem omSet_eq {om : Nat → Option Addr} {i : Nat} {x : Option Addr} : omSet om i x i = x := if_pos rfl
theorem omSet_ne {om : Nat → Option Addr} {i j : Nat} {x : Option Addr} (h : ¬ j = i) : omSet om i x j = om j := if_neg h
theorem omSet_none {om : Nat → Option Addr} {i j : Nat} {a : Addr} (h : omSet om i none j = some a) : ¬ j = i ∧ om j = some a := by
  by_cases c : j = i
  · subst c
    rw [omSet_eq] at h
    cases h
  · rw [omSet_ne c] at h
    exact ⟨c, h⟩

section
variable {K : Kx} {B : Bs} {F F' : Hp} {rho rho' : List Addr} {om om' : Nat → Option Addr} {z z' : Z} {σ σ' : L2.St} {H H' : Hp} {a p : Addr} {d : D} {v : V} {o : HO}

theorem SlOk.mono {i : Nat} {o : Option (Option V)} {x : Sl} (e : Same F F') (q : rho <+: rho') (h : SlOk K F rho om H i o x) (hk : ∀ a, om i = some a → H' a = H a) (ho : om' i = om i) : SlOk K F' rho' om' H' i o x := by
  cases x with
  | no => trivial
  | val d =>
    obtain ⟨v, e1, r⟩ := h
    exact ⟨v, e1, r.mono e q⟩
  | own d =>
    obtain ⟨a, e1, e2, r⟩ := h
    exact ⟨a, ho.trans e1, e2, r.mono e q (hk a e1)⟩
theorem Rh.mono1 {h : List D} (r : Rh K F rho h H) (e : Same F F') (fro : Same F' H') (hk : ∀ (n : Nat) a, rho[n]? = some a → H' a = H a) (nf : ∀ (n : Nat) a, rho[n]? = some a → F' a = none) (tb : TbOk K F' H') : Rh K F' rho h H' :=
  ⟨fro, r.len, fun n d a h1 h2 => (r.obs n d a h1 h2).mono e (List.prefix_refl _) (hk n a h2), r.inj, nf, tb, r.tr⟩
theorem TbOk.mono (t : TbOk K F H) (e : Same F F') (hk : ∀ p ∈ K.tb, H' p.1 = H p.1) (hf : ∀ p ∈ K.tb, F' p.1 = none) : TbOk K F' H' := by
  refine ⟨fun p hp => ?_, t.un, hf⟩
  obtain ⟨ps, h1, h2, h3⟩ := t.tb p hp
  refine ⟨ps, (hk p hp).trans h1, h2, fun pos cv hc => ?_⟩
  obtain ⟨c, e1, e2⟩ := h3 pos cv hc
  exact ⟨c, e1, e _ _ e2⟩
theorem TbOk.there (t : TbOk K F H) {q : Addr × Str} (hq : q ∈ K.tb) : ∃ o, H q.1 = some o := by
  obtain ⟨ps, h1, _⟩ := t.tb q hq
  exact ⟨_, h1⟩
theorem TbOk.ne (t : TbOk K F H) (h : H p = none) : ∀ q ∈ K.tb, ¬ q.1 = p := fun q hq e => by
  obtain ⟨u, hu⟩ := t.there hq
  rw [e, h] at hu
  cases hu

/-- what is not there is nobody's -/
theorem Rl.out (R : Rl K B F rho om z σ H) (h : H p = none) : F p = none ∧ (∀ n : Nat, ¬ rho[n]? = some p) ∧ (∀ i : Nat, ¬ om i = some p) ∧ (B.mu p ∨ B.H0 p = none) ∧ (∀ q ∈ K.tb, ¬ q.1 = p) := by
  refine ⟨R.rh.fro.free h, fun n e => ?_, fun i e => ?_, (R.fresh0 h).symm, R.rh.tb.ne h⟩
  · obtain ⟨u, q, _⟩ := R.rh.there (z := z) e
    rw [h] at q
    cases q
  · obtain ⟨u, q, _⟩ := R.oth i p e
    rw [h] at q
    cases q
/-- a new object, known to nobody -/
theorem Rl.new (R : Rl K B F rho om z σ H) (h : H p = none) (hn : NT o := by exact fun _ e => nomatch e) : Rl K B F rho om z σ (upd H p o) ∧ Fresh K B F rho om (upd H p o) p := by
  obtain ⟨h1, h2, h3, h4, h5⟩ := R.out h
  have nr : ∀ (n : Nat) a, rho[n]? = some a → a ≠ p := fun n a e q => h2 n (by rw [← q]; exact e)
  have no : ∀ (i : Nat) a, om i = some a → a ≠ p := fun i a e q => h3 i (by rw [← q]; exact e)
  refine ⟨⟨R.rh.mono1 (fun _ _ e => e) (Same.upd_out R.rh.fro h1) (fun n a e => upd_ne (nr n a e)) R.rh.nf (R.rh.tb.mono (fun _ _ e => e) (fun q hq => upd_ne (h5 q hq)) R.rh.tb.nf), R.len, fun i x e => (R.sl i x e).mono (fun _ _ e => e) (List.prefix_refl _) (fun a e => upd_ne (no i a e)) rfl, R.oj, R.orr, R.off,
    fun i a e => by rw [upd_ne (no i a e)]; exact R.oth i a e, fun a u e m => ?_, R.exf, R.exr, R.nF, R.nr, R.no, R.ow, R.to, R.mt⟩, ⟨h1, h2, h3, h4, ⟨_, upd_same, hn⟩, h5⟩⟩
  have q := R.frm a u e m
  rw [upd_ne (ne_of_none q h)]
  exact q
/-- a known object of nobody's is laid down for ever -/
theorem Rl.lay (R : Rl K B F rho om z σ H) (h : Fresh K B F rho om H p) (hp : H p = some o) : Rl K B (upd F p o) rho om z σ H ∧ Same F (upd F p o) := by
  have nr : ∀ (n : Nat) a, rho[n]? = some a → a ≠ p := fun n a e q => h.r n (by rw [← q]; exact e)
  have no : ∀ (i : Nat) a, om i = some a → a ≠ p := fun i a e q => h.o i (by rw [← q]; exact e)
  have s1 : Same F (upd F p o) := Same.newu h.f
  refine ⟨⟨R.rh.mono1 s1 (fun a u e => ?_) (fun _ _ _ => rfl) (fun n a e => by rw [upd_ne (nr n a e)]; exact R.rh.nf n a e) (R.rh.tb.mono s1 (fun _ _ => rfl) fun q hq => by rw [upd_ne (h.k q hq)]; exact R.rh.tb.nf q hq), R.len, fun i x e => (R.sl i x e).mono s1 (List.prefix_refl _) (fun _ _ => rfl) rfl, R.oj, R.orr,
    fun i a e => by rw [upd_ne (no i a e)]; exact R.off i a e, R.oth, R.frm, R.exf.trans s1, R.exr, fun a u e1 nt e2 m' => ?_, R.nr, R.no, R.ow, R.to, R.mt⟩, s1⟩
  · by_cases c : a = p
    · subst c
      rw [upd_same] at e
      rw [hp]
      exact e
    · rw [upd_ne c] at e
      exact R.rh.fro a u e
  · have c : a ≠ p := fun c => by
      subst c
      rcases h.b with q | q
      · exact m' q
      · rw [q] at e1
        cases e1
    rw [upd_ne c]
    exact R.nF a u e1 nt e2 m'
/-- a tuple that stands is known from now on -/
theorem Rl.layT {xs : List V} (R : Rl K B F rho om z σ H) (hp : H p = some (.tup xs)) : ∃ F', Rl K B F' rho om z σ H ∧ Same F F' ∧ F' p = some (.tup xs) ∧ ∀ a o, H a = some o → NT o → F a = none → F' a = none := by
  cases hf : F p with
  | some o =>
    have e := R.rh.fro _ _ hf
    rw [hp] at e
    cases e
    exact ⟨F, R, Same.refl F, hf, fun _ _ _ _ n => n⟩
  | none =>
    have nr : ∀ (n : Nat) a, rho[n]? = some a → a ≠ p := fun n a e c => by
      obtain ⟨u, q, nt⟩ := R.rh.there (z := z) e
      rw [c, hp] at q
      cases q
      exact nt _ rfl
    have no : ∀ (i : Nat) a, om i = some a → a ≠ p := fun i a e c => by
      obtain ⟨u, q, nt⟩ := R.oth i a e
      rw [c, hp] at q
      cases q
      exact nt _ rfl
    have nk : ∀ q ∈ K.tb, q.1 ≠ p := fun q hq c => by
      obtain ⟨ps, h1, _⟩ := R.rh.tb.tb q hq
      rw [c, hp] at h1
      cases h1
    have s1 : Same F (upd F p (.tup xs)) := Same.newu hf
    refine ⟨_, ⟨R.rh.mono1 s1 (fun a u e => ?_) (fun _ _ _ => rfl) (fun n a e => by rw [upd_ne (nr n a e)]; exact R.rh.nf n a e) (R.rh.tb.mono s1 (fun _ _ => rfl) fun q hq => by rw [upd_ne (nk q hq)]; exact R.rh.tb.nf q hq), R.len, fun i x e => (R.sl i x e).mono s1 (List.prefix_refl _) (fun _ _ => rfl) rfl, R.oj, R.orr,
      fun i a e => by rw [upd_ne (no i a e)]; exact R.off i a e, R.oth, R.frm, R.exf.trans s1, R.exr, fun a u e1 nt e2 m => ?_, R.nr, R.no, R.ow, R.to, R.mt⟩, s1, upd_same, fun a o e nt n => ?_⟩
    · by_cases c : a = p
      · subst c
        rw [upd_same] at e
        rw [hp]
        exact e
      · rw [upd_ne c] at e
        exact R.rh.fro a u e
    · have c : a ≠ p := fun c => by
        have q := R.frm a u e1 m
        rw [c, hp] at q
        cases q
        exact nt _ rfl
      rw [upd_ne c]
      exact R.nF a u e1 nt e2 m
    · have c : a ≠ p := fun c => by
        rw [c, hp] at e
        cases e
        exact nt _ rfl
      rw [upd_ne c]
      exact n
/-- .. at once -/
theorem Rl.alloc (R : Rl K B F rho om z σ H) (h : H p = none) : ∃ F', Rl K B F' rho om z σ (upd H p o) ∧ Same F F' ∧ F' p = some o := by
  obtain ⟨h1, h2, h3, h4, h5⟩ := R.out h
  have nr : ∀ (n : Nat) a, rho[n]? = some a → a ≠ p := fun n a e q => h2 n (by rw [← q]; exact e)
  have no : ∀ (i : Nat) a, om i = some a → a ≠ p := fun i a e q => h3 i (by rw [← q]; exact e)
  have s1 : Same F (upd F p o) := Same.newu h1
  refine ⟨upd F p o, ⟨R.rh.mono1 s1 (Same.both R.rh.fro h) (fun n a e => upd_ne (nr n a e)) (fun n a e => by rw [upd_ne (nr n a e)]; exact R.rh.nf n a e) (R.rh.tb.mono s1 (fun q hq => upd_ne (h5 q hq)) fun q hq => by rw [upd_ne (h5 q hq)]; exact R.rh.tb.nf q hq), R.len, fun i x e => (R.sl i x e).mono s1 (List.prefix_refl _) (fun a e => upd_ne (no i a e)) rfl, R.oj, R.orr,
    fun i a e => by rw [upd_ne (no i a e)]; exact R.off i a e, fun i a e => by rw [upd_ne (no i a e)]; exact R.oth i a e, fun a u e m => ?_, R.exf.trans s1, R.exr, fun a u e1 nt e2 m => ?_, R.nr, R.no, R.ow, R.to, R.mt⟩, s1, upd_same⟩
  · have q := R.frm a u e m
    rw [upd_ne (ne_of_none q h)]
    exact q
  · have q := R.frm a u e1 m
    rw [upd_ne (ne_of_none q h)]
    exact R.nF a u e1 nt e2 m
/-- a slot is set to a value -/
theorem Rl.setVal (R : Rl K B F rho om z σ H) (i : Nat) (r : Rp K F rho d v) : Rl K B F rho (omSet om i none) ⟨z.s.set i (.val d), z.h⟩ (σ.set i (some v)) H := by
  refine ⟨R.rh, by simp only [List.length_set]; exact R.len, fun j x e => ?_, fun a b c e1 e2 => R.oj a b c (omSet_none e1).2 (omSet_none e2).2, fun a b c e => R.orr a b c (omSet_none e).2, fun a c e => R.off a c (omSet_none e).2, fun a c e => R.oth a c (omSet_none e).2,
    R.frm, R.exf, R.exr, R.nF, R.nr, fun a c e => R.no a c (omSet_none e).2, fun j a e => by
      obtain ⟨c, e⟩ := omSet_none e
      obtain ⟨d', q⟩ := R.ow j a e
      exact ⟨d', by rw [← q]; exact List.getElem?_set_ne (Ne.symm c)⟩, fun p hp j e => R.to p hp j (omSet_none e).2, R.mt⟩
  have e : (z.s.set i (.val d))[j]? = some x := e
  by_cases c : j = i
  · subst c
    have hl : j < z.s.length := by
      have := (List.getElem?_eq_some_iff.mp e).1
      simpa using this
    rw [List.getElem?_set_self hl] at e
    cases e
    exact ⟨v, List.getElem?_set_self (by rw [← R.len]; exact hl), r⟩
  · rw [List.getElem?_set_ne (Ne.symm c)] at e
    rw [List.getElem?_set_ne (Ne.symm c)]
    exact (R.sl j x e).mono (fun _ _ e => e) (List.prefix_refl _) (fun _ _ => rfl) (omSet_ne c)
/-- a slot takes an object of nobody's -/
theorem Rl.setOwn (R : Rl K B F rho om z σ H) (i : Nat) (hi : i < z.s.length) (h : Fresh K B F rho om H p) (r : Ob K F rho H p d) : Rl K B F rho (omSet om i (some p)) ⟨z.s.set i (.own d), z.h⟩ (σ.set i (some (.ref p))) H := by
  have cs : ∀ {j : Nat} {a : Addr}, omSet om i (some p) j = some a → (j = i ∧ a = p) ∨ (¬ j = i ∧ om j = some a) := fun {j a} e => by
    by_cases c : j = i
    · subst c
      rw [omSet_eq] at e
      cases e
      exact .inl ⟨rfl, rfl⟩
    · rw [omSet_ne c] at e
      exact .inr ⟨c, e⟩
  refine ⟨R.rh, by simp only [List.length_set]; exact R.len, fun j x e => ?_, fun a b c e1 e2 => ?_, fun a b c e => ?_, fun a c e => ?_, fun a c e => ?_, R.frm, R.exf, R.exr, R.nF, R.nr, fun a c e => ?_, fun j a e => ?_, fun q hq j e => ?_, R.mt⟩
  · have e : (z.s.set i (.own d))[j]? = some x := e
    by_cases c : j = i
    · subst c
      have hl : j < z.s.length := by
        have := (List.getElem?_eq_some_iff.mp e).1
        simpa using this
      rw [List.getElem?_set_self hl] at e
      cases e
      exact ⟨p, omSet_eq, List.getElem?_set_self (by rw [← R.len]; exact hl), r⟩
    · rw [List.getElem?_set_ne (Ne.symm c)] at e
      rw [List.getElem?_set_ne (Ne.symm c)]
      exact (R.sl j x e).mono (fun _ _ e => e) (List.prefix_refl _) (fun _ _ => rfl) (omSet_ne c)
  · rcases cs e1 with ⟨rfl, rfl⟩ | ⟨n1, q1⟩
    · rcases cs e2 with ⟨rfl, _⟩ | ⟨n2, q2⟩
      · rfl
      · exact absurd q2 (h.o b)
    · rcases cs e2 with ⟨rfl, rfl⟩ | ⟨n2, q2⟩
      · exact absurd q1 (h.o a)
      · exact R.oj a b c q1 q2
  · rcases cs e with ⟨rfl, rfl⟩ | ⟨n1, q1⟩
    · exact h.r b
    · exact R.orr a b c q1
  · rcases cs e with ⟨rfl, rfl⟩ | ⟨n1, q1⟩
    · exact h.f
    · exact R.off a c q1
  · rcases cs e with ⟨rfl, rfl⟩ | ⟨n1, q1⟩
    · exact h.t
    · exact R.oth a c q1
  · rcases cs e with ⟨rfl, rfl⟩ | ⟨n1, q1⟩
    · exact h.b
    · exact R.no a c q1
  · rcases cs e with ⟨rfl, rfl⟩ | ⟨n1, q1⟩
    · exact ⟨d, List.getElem?_set_self hi⟩
    · obtain ⟨d', q⟩ := R.ow j a q1
      exact ⟨d', by rw [← q]; exact List.getElem?_set_ne (Ne.symm n1)⟩
  · rcases cs e with ⟨_, q2⟩ | ⟨_, q2⟩
    · exact h.k q hq q2
    · exact R.to q hq j q2
/-- what a slot owns is nobody else's -/
theorem Rl.freshOwn (R : Rl K B F rho om z σ H) {i : Nat} (e : om i = some p) : Fresh K B F rho (omSet om i none) H p :=
  ⟨R.off i p e, fun n => R.orr i n p e, fun j q => (omSet_none q).1 (R.oj j i p (omSet_none q).2 e), R.no i p e, R.oth i p e, fun q hq c => R.to q hq i (by rw [c]; exact e)⟩
/-- a slot forgets -/
theorem Rl.forget (R : Rl K B F rho om z σ H) (i : Nat) : Rl K B F rho (omSet om i none) ⟨z.s.set i .no, z.h⟩ σ H := by
  refine ⟨R.rh, by simp only [List.length_set]; exact R.len, fun j x e => ?_, fun a b c e1 e2 => R.oj a b c (omSet_none e1).2 (omSet_none e2).2, fun a b c e => R.orr a b c (omSet_none e).2, fun a c e => R.off a c (omSet_none e).2, fun a c e => R.oth a c (omSet_none e).2,
    R.frm, R.exf, R.exr, R.nF, R.nr, fun a c e => R.no a c (omSet_none e).2, fun j a e => by
      obtain ⟨c, e⟩ := omSet_none e
      obtain ⟨d', q⟩ := R.ow j a e
      exact ⟨d', by rw [← q]; exact List.getElem?_set_ne (Ne.symm c)⟩, fun p hp j e => R.to p hp j (omSet_none e).2, R.mt⟩
  have e : (z.s.set i .no)[j]? = some x := e
  by_cases c : j = i
  · subst c
    have hl : j < z.s.length := by
      have := (List.getElem?_eq_some_iff.mp e).1
      simpa using this
    rw [List.getElem?_set_self hl] at e
    cases e
    trivial
  · rw [List.getElem?_set_ne (Ne.symm c)] at e
    exact (R.sl j x e).mono (fun _ _ e => e) (List.prefix_refl _) (fun _ _ => rfl) (omSet_ne c)
/-- a slot's object is changed -/
theorem Rl.mutOwn (R : Rl K B F rho om z σ H) {i : Nat} {d0 : D} (e : om i = some p) (hs : z.s[i]? = some (.own d0)) (r : Ob K F rho (upd H p o) p d) : Rl K B F rho om ⟨z.s.set i (.own d), z.h⟩ σ (upd H p o) := by
  have nr : ∀ (n : Nat) a, rho[n]? = some a → a ≠ p := fun n a q c => R.orr i n p e (by rw [← c]; exact q)
  have no : ∀ (j : Nat) a, ¬ j = i → om j = some a → a ≠ p := fun j a c q c2 => c (R.oj j i p (by rw [← c2]; exact q) e)
  refine ⟨R.rh.mono1 (fun _ _ e => e) (Same.upd_out R.rh.fro (R.off i p e)) (fun n a q => upd_ne (nr n a q)) R.rh.nf (R.rh.tb.mono (fun _ _ e => e) (fun q hq => upd_ne fun c => R.to q hq i (by rw [c]; exact e)) R.rh.tb.nf), by simp only [List.length_set]; exact R.len, fun j x q => ?_, R.oj, R.orr, R.off, fun j a q => ?_, fun a u q m => ?_, R.exf, R.exr, R.nF, R.nr, R.no, fun j a q => ?_, R.to, R.mt⟩
  · have q : (z.s.set i (.own d))[j]? = some x := q
    by_cases c : j = i
    · subst c
      have hl : j < z.s.length := (List.getElem?_eq_some_iff.mp hs).1
      rw [List.getElem?_set_self hl] at q
      cases q
      obtain ⟨a, e1, e2, _⟩ := R.sl j _ hs
      rw [e] at e1
      cases e1
      exact ⟨p, e, e2, r⟩
    · rw [List.getElem?_set_ne (Ne.symm c)] at q
      exact (R.sl j x q).mono (fun _ _ e => e) (List.prefix_refl _) (fun a h => upd_ne (no j a c h)) rfl
  · by_cases c : a = p
    · subst c
      exact ⟨_, upd_same, r.nt upd_same⟩
    · rw [upd_ne c]
      exact R.oth j a q
  · have c : a ≠ p := fun c => by
      subst c
      rcases R.no i a e with h | h
      · exact m h
      · rw [h] at q
        cases q
    rw [upd_ne c]
    exact R.frm a u q m
  · by_cases c : j = i
    · subst c
      exact ⟨d, List.getElem?_set_self (List.getElem?_eq_some_iff.mp hs).1⟩
    · obtain ⟨d', q2⟩ := R.ow j a q
      exact ⟨d', by rw [← q2]; exact List.getElem?_set_ne (Ne.symm c)⟩
/-- an object of the shared heap is changed -/
theorem Rl.mutRef (R : Rl K B F rho om z σ H) {n : Nat} (e : rho[n]? = some p) (r : Ob K F rho (upd H p o) p d) : Rl K B F rho om ⟨z.s, z.h.set n d⟩ σ (upd H p o) := by
  have no : ∀ (j : Nat) a, om j = some a → a ≠ p := fun j a q c => R.orr j n p (by rw [← c]; exact q) e
  have hn : n < z.h.length := by rw [R.rh.len]; exact (List.getElem?_eq_some_iff.mp e).1
  refine ⟨⟨Same.upd_out R.rh.fro (R.rh.nf n p e), by simp only [List.length_set]; exact R.rh.len, fun m d' a h1 h2 => ?_, R.rh.inj, R.rh.nf, R.rh.tb.mono (fun _ _ e => e) (fun q hq => upd_ne fun c => R.rh.tr q hq n (by rw [c]; exact e)) R.rh.tb.nf, R.rh.tr⟩, R.len, fun j x q => (R.sl j x q).mono (fun _ _ e => e) (List.prefix_refl _) (fun a h => upd_ne (no j a h)) rfl, R.oj, R.orr, R.off,
    fun j a q => by rw [upd_ne (no j a q)]; exact R.oth j a q, fun a u q m => ?_, R.exf, R.exr, R.nF, R.nr, R.no, R.ow, R.to, R.mt⟩
  · by_cases c : m = n
    · subst c
      rw [List.getElem?_set_self hn] at h1
      cases h1
      rw [e] at h2
      cases h2
      exact r
    · rw [List.getElem?_set_ne (Ne.symm c)] at h1
      have ca : a ≠ p := fun q => c (R.rh.inj m n p (by rw [← q]; exact h2) e)
      exact (R.rh.obs m d' a h1 h2).mono (fun _ _ e => e) (List.prefix_refl _) (upd_ne ca)
  · have c : a ≠ p := fun c => by
      subst c
      rcases R.nr n a e with h | h
      · exact m h
      · rw [h] at q
        cases q
    rw [upd_ne c]
    exact R.frm a u q m
/-- an object of nobody's joins the shared heap -/
theorem Rl.share (R : Rl K B F rho om z σ H) (h : Fresh K B F rho om H p) (r : Ob K F rho H p d) : Rl K B F (rho ++ [p]) om ⟨z.s, z.h ++ [d]⟩ σ H ∧ (rho ++ [p])[z.h.length]? = some p := by
  have px : rho <+: rho ++ [p] := List.prefix_append _ _
  have last : (rho ++ [p])[z.h.length]? = some p := by rw [R.rh.len, List.getElem?_append_right (Nat.le_refl _), Nat.sub_self]; rfl
  have cs : ∀ {n : Nat} {a : Addr}, (rho ++ [p])[n]? = some a → rho[n]? = some a ∨ (n = rho.length ∧ a = p) := fun {n a} e => by
    rcases Nat.lt_trichotomy n rho.length with c | c | c
    · rw [List.getElem?_append_left c] at e
      exact .inl e
    · subst c
      rw [List.getElem?_append_right (Nat.le_refl _), Nat.sub_self] at e
      exact .inr ⟨rfl, (Option.some.inj e).symm⟩
    · rw [List.getElem?_append_right (Nat.le_of_lt c)] at e
      have : 1 ≤ n - rho.length := by omega
      rw [List.getElem?_eq_none (by simpa using this)] at e
      cases e
  refine ⟨⟨⟨R.rh.fro, by simp only [List.length_append, List.length_singleton]; rw [R.rh.len], fun n d' a h1 h2 => ?_, fun i j a h1 h2 => ?_, fun n a h1 => ?_, R.rh.tb, fun q hq n e => ?_⟩, R.len, fun j x q => (R.sl j x q).mono (fun _ _ e => e) px (fun _ _ => rfl) rfl, R.oj, fun i n a q e => ?_, R.off, R.oth, R.frm, R.exf, R.exr.trans px, R.nF, fun n a q => ?_, R.no, R.ow, R.to, R.mt⟩, last⟩
  · rcases cs h2 with q | ⟨q, rfl⟩
    · have hl : n < z.h.length := by rw [R.rh.len]; exact (List.getElem?_eq_some_iff.mp q).1
      rw [List.getElem?_append_left hl] at h1
      exact (R.rh.obs n d' a h1 q).mono (fun _ _ e => e) px rfl
    · subst q
      rw [← R.rh.len, List.getElem?_append_right (Nat.le_refl _), Nat.sub_self] at h1
      cases (show some d = some d' from h1)
      exact r.mono (fun _ _ e => e) px rfl
  · rcases cs h1 with q | ⟨q, rfl⟩
    · rcases cs h2 with q2 | ⟨q2, rfl⟩
      · exact R.rh.inj i j a q q2
      · exact absurd q (h.r i)
    · rcases cs h2 with q2 | ⟨q2, _⟩
      · exact absurd q2 (h.r j)
      · omega
  · rcases cs h1 with q | ⟨_, rfl⟩
    · exact R.rh.nf n a q
    · exact h.f
  · rcases cs e with q2 | ⟨_, q2⟩
    · exact R.rh.tr q hq n q2
    · exact h.k q hq q2
  · rcases cs e with q2 | ⟨_, rfl⟩
    · exact R.orr i n a q q2
    · exact h.o i q
  · rcases cs q with q2 | ⟨_, rfl⟩
    · exact R.nr n a q2
    · exact h.b
/-- the heap as it stands, as a base -/
def reb (K : Kx) (F : Hp) (rho : List Addr) (om : Nat → Option Addr) (H : Hp) : Bs := ⟨H, F, rho, fun a => ((∃ i : Nat, om i = some a) ∨ ∃ n : Nat, rho[n]? = some a) ∨ ∃ p ∈ K.tb, p.1 = a⟩
theorem Rl.reb (R : Rl K B F rho om z σ H) : Rl K (reb K F rho om H) F rho om z σ H :=
  ⟨R.rh, R.len, R.sl, R.oj, R.orr, R.off, R.oth, fun _ _ e _ => e, fun _ _ e => e, List.prefix_refl _, fun _ _ _ _ e _ => e, fun n a e => .inl (.inl (.inr ⟨n, e⟩)), fun i a e => .inl (.inl (.inl ⟨i, e⟩)), R.ow, R.to, fun p hp => .inr ⟨p, hp, rfl⟩⟩
/-- back to the base before -/
theorem Rl.back (R : Rl K B F rho om z σ H) (S : Rl K (Mi.reb K F rho om H) F' rho' om' z' σ' H') : Rl K B F' rho' om' z' σ' H' := by
  have notmu : ∀ a u, B.H0 a = some u → ¬ B.mu a → ¬ (((∃ i : Nat, om i = some a) ∨ ∃ n : Nat, rho[n]? = some a) ∨ ∃ p ∈ K.tb, p.1 = a) := fun a u e m q => by
    rcases q with (⟨i, q⟩ | ⟨n, q⟩) | ⟨p, hp, rfl⟩
    · rcases R.no i a q with h | h
      · exact m h
      · rw [h] at e
        cases e
    · rcases R.nr n a q with h | h
      · exact m h
      · rw [h] at e
        cases e
    · exact m (R.mt p hp)
  have old : ∀ a, (Mi.reb K F rho om H).mu a ∨ (Mi.reb K F rho om H).H0 a = none → B.mu a ∨ B.H0 a = none := fun a q => by
    rcases q with ((⟨i, q⟩ | ⟨n, q⟩) | ⟨p, hp, rfl⟩) | q
    · exact R.no i a q
    · exact R.nr n a q
    · exact .inl (R.mt p hp)
    · exact (R.fresh0 q).symm
  refine ⟨S.rh, S.len, S.sl, S.oj, S.orr, S.off, S.oth, fun a u e m => S.frm a u (R.frm a u e m) (notmu a u e m), R.exf.trans S.exf, R.exr.trans S.exr, fun a u e1 nt e2 m => S.nF a u (R.frm a u e1 m) nt (R.nF a u e1 nt e2 m) (notmu a u e1 m), fun n a q => old a (S.nr n a q), fun i a q => old a (S.no i a q), S.ow, S.to, R.mt⟩
/-- through a part of an evaluation an object of nobody's stays as it was -/
theorem Fresh.through (f : Fresh K B F rho om H p) (S : Rl K (Mi.reb K F rho om H) F' rho' om' z' σ' H') (hb : ∀ i, om' i = some p → om i = some p) : Fresh K B F' rho' om' H' p ∧ H' p = H p := by
  obtain ⟨u, hu, nt⟩ := f.t
  have nm : ¬ (Mi.reb K F rho om H).mu p := fun q => by
    rcases q with (⟨i, q⟩ | ⟨n, q⟩) | ⟨q, hq, c⟩
    · exact f.o i q
    · exact f.r n q
    · exact f.k q hq c
  have e := S.frm p u hu nm
  refine ⟨⟨S.nF p u hu nt f.f nm, fun n q => ?_, fun i q => f.o i (hb i q), f.b, ⟨u, e, nt⟩, f.k⟩, e.trans hu.symm⟩
  rcases S.nr n p q with q | q
  · exact nm q
  · have q : H p = none := q
    rw [hu] at q
    cases q
end

/-! ### calls -/
/-- what a def does: the arguments and the shared heap go to a value and a heap, or it is not told -/
abbrev Fn := List D → List D → Option (D × List D)
def spM (n : Nat) (K : Kx) (mf : Fn) : Sp := fun vs H Q _ => vs.length = n ∧ ∃ (F : Hp) (rho : List Addr) (h : List D) (ds : List D), Rh K F rho h H ∧ Rps K F rho ds vs ∧ ∃ (d : D) (h' : List D), mf ds h = some (d, h') ∧
  ∀ (F' : Hp) (rho' : List Addr) (H' : Hp) (v : V), Same F F' → rho <+: rho' → Rh K F' rho' h' H' → (∀ a o, H a = some o → (∀ n : Nat, ¬ rho[n]? = some a) → (∀ p ∈ K.tb, ¬ p.1 = a) → H' a = some o) →
    (∀ a o, H a = some o → NT o → F a = none → (∀ n : Nat, ¬ rho[n]? = some a) → F' a = none) → (∀ (n : Nat) a, rho'[n]? = some a → (∃ m : Nat, rho[m]? = some a) ∨ H a = none) → Rp K F' rho' d v → Q v H'
section
variable {K : Kx} {B : Bs} {F F' : Hp} {rho rho' : List Addr} {om om' : Nat → Option Addr} {z z' : Z} {σ σ' : L2.St} {H H' : Hp} {a p : Addr} {d : D} {v : V} {o : HO}
/-- behind a call -/
theorem Rl.called {h' : List D} (R : Rl K B F rho om z σ H) (e1 : Same F F') (e2 : rho <+: rho') (r : Rh K F' rho' h' H') (fr : ∀ a o, H a = some o → (∀ n : Nat, ¬ rho[n]? = some a) → (∀ p ∈ K.tb, ¬ p.1 = a) → H' a = some o)
    (nf : ∀ a o, H a = some o → NT o → F a = none → (∀ n : Nat, ¬ rho[n]? = some a) → F' a = none) (nr : ∀ (n : Nat) a, rho'[n]? = some a → (∃ m : Nat, rho[m]? = some a) ∨ H a = none) : Rl K B F' rho' om ⟨z.s, h'⟩ σ H' := by
  have keep : ∀ (i : Nat) a, om i = some a → H' a = H a := fun i a e => by
    obtain ⟨u, hu, _⟩ := R.oth i a e
    rw [fr a u hu (fun n => R.orr i n a e) (fun p hp c => R.to p hp i (by rw [c]; exact e)), hu]
  have nrho : ∀ a u, B.H0 a = some u → ¬ B.mu a → ∀ n : Nat, ¬ rho[n]? = some a := fun a u e m n q => by
    rcases R.nr n a q with h | h
    · exact m h
    · rw [h] at e
      cases e
  refine ⟨r, R.len, fun i x q => (R.sl i x q).mono e1 e2 (keep i) rfl, R.oj, fun i n a q q2 => ?_, fun i a q => ?_, fun i a q => by rw [keep i a q]; exact R.oth i a q, fun a u q m => fr a u (R.frm a u q m) (nrho a u q m) (fun p hp c => m (by rw [← c]; exact R.mt p hp)), R.exf.trans e1, R.exr.trans e2,
    fun a u q1 nt q2 m => nf a u (R.frm a u q1 m) nt (R.nF a u q1 nt q2 m) (nrho a u q1 m), fun n a q => ?_, R.no, R.ow, R.to, R.mt⟩
  · rcases nr n a q2 with ⟨m, h⟩ | h
    · exact R.orr i m a q h
    · obtain ⟨u, hu, _⟩ := R.oth i a q
      rw [h] at hu
      cases hu
  · obtain ⟨u, hu, nt⟩ := R.oth i a q
    exact nf a u hu nt (R.off i a q) fun n => R.orr i n a q
  · rcases nr n a q with ⟨m, h⟩ | h
    · exact R.nr m a h
    · exact (R.fresh0 h).symm
/-- a frame's start -/
def slots (n : Nat) (ds : List D) : List Sl := ds.map Sl.val ++ List.replicate (n - ds.length) Sl.no
theorem slots_get {n : Nat} {ds : List D} {i : Nat} {x : Sl} (h : (slots n ds)[i]? = some x) : x = .no ∨ ∃ d, ds[i]? = some d ∧ x = .val d := by
  unfold slots at h
  rcases Nat.lt_or_ge i (ds.map Sl.val).length with c | c
  · rw [List.getElem?_append_left c, List.getElem?_map] at h
    cases q : ds[i]? with
    | none =>
      rw [q] at h
      cases h
    | some d =>
      rw [q] at h
      exact .inr ⟨d, rfl, (Option.some.inj h).symm⟩
  · rw [List.getElem?_append_right c, List.getElem?_replicate] at h
    split at h
    · exact .inl (Option.some.inj h).symm
    · cases h
theorem start_get {N : List Str} {vs : List V} {i : Nat} {v : V} (h : vs[i]? = some v) : (L2.start N vs)[i]? = some (some v) := by
  unfold L2.start
  have hl := (List.getElem?_eq_some_iff.mp h).1
  rw [List.getElem?_append_left (by simpa using hl), List.getElem?_map, h]
  rfl
theorem Rl.begin {h : List D} {ds : List D} {vs : List V} {N : List Str} (r : Rh K F rho h H) (q : Rps K F rho ds vs) (hl : vs.length ≤ N.length) :
    Rl K ⟨H, F, rho, fun a => (∃ n : Nat, rho[n]? = some a) ∨ ∃ p ∈ K.tb, p.1 = a⟩ F rho (fun _ => none) ⟨slots N.length ds, h⟩ (L2.start N vs) H := by
  refine ⟨r, ?_, fun i x e => ?_, (fun _ _ _ e => nomatch e), (fun _ _ _ e => nomatch e), (fun _ _ e => nomatch e), (fun _ _ e => nomatch e), fun _ _ e _ => e, fun _ _ e => e, List.prefix_refl _, fun _ _ _ _ e _ => e, fun n a e => .inl (.inl ⟨n, e⟩), (fun _ _ e => nomatch e), (fun _ _ e => nomatch e), (fun _ _ _ e => nomatch e), fun p hp => .inr ⟨p, hp, rfl⟩⟩
  · unfold slots L2.start
    rw [List.length_append, List.length_append, List.length_map, List.length_map, List.length_replicate, List.length_replicate, q.length]
  · rcases slots_get e with rfl | ⟨d, h1, rfl⟩
    · trivial
    · obtain ⟨v, h2, r2⟩ := q.get h1
      exact ⟨v, start_get h2, r2⟩
end
end Mi

set_option Elab.async false
set_option linter.all false
set_option maxRecDepth 100000
/-! Mi, part C: the meanings of expressions, tests, statements. -/
namespace Mi
open PySem PySem.Spec PyProof.Rows L2

abbrev M (α : Type) := Z → Option (α × Z)
def bnd {α β : Type} (a : M α) (f : α → M β) : M β := fun z => match a z with
  | none => none
  | some (x, z1) => f x z1
def ret {α : Type} (x : α) : M α := fun z => some (x, z)
def isPure : D → Bool
  | .own _ => false
  | _ => true
/-- the items of a list or a tuple (true: a tuple) -/
def cont (d : D) (z : Z) : Option (Bool × List D) := match d with
  | .lst xs => some (false, xs)
  | .tup xs => some (true, xs)
  | .kt xs => some (true, xs)
  | .scr xs => some (false, xs)
  | .ref n => match z.h[n]? with
    | some (.lst xs) => some (false, xs)
    | _ => none
  | .own i => match z.s[i]? with
    | some (.own (.lst xs)) => some (false, xs)
    | _ => none
  | _ => none
/-- lists stay below this length -/
def szl : Nat := 1000000

/-! ### expressions -/
namespace E
def var (i : Nat) : M D := fun z => match z.s[i]? with
  | some (.val d) => some (d, z)
  | some (.own _) => some (.own i, z)
  | _ => none
def c (d : D) : M D := ret d
/-- a two-place operation that changes nothing -/
def op (f : D → D → Z → Option D) (a b : M D) : M D := bnd a fun x => bnd b fun y => fun z => match f x y z with
  | none => none
  | some d => some (d, z)
def un (f : D → Z → Option D) (a : M D) : M D := bnd a fun x => fun z => match f x z with
  | none => none
  | some d => some (d, z)
def args : List (M D) → M (List D)
  | [] => ret []
  | a :: as => bnd a fun x => bnd (args as) fun xs => if isPure x = true then ret (x :: xs) else fun _ => none
def tup (as : List (M D)) : M D := bnd (args as) fun xs => ret (.tup xs)
/-- a new list that nobody changes -/
def frz (m : M (List D)) : M D := bnd m fun xs => ret (.lst xs)
/-- a new list of the shared heap -/
def shr (m : M (List D)) : M D := bnd m fun xs z => some (.ref z.h.length, ⟨z.s, z.h ++ [.lst xs]⟩)
def call (mf : Fn) (as : List (M D)) : M D := bnd (args as) fun xs z => match mf xs z.h with
  | none => none
  | some (d, h') => some (d, ⟨z.s, h'⟩)
/-- a built-in's call by values -/
def blt (f : List D → Z → Option D) (as : List (M D)) : M D := fun z => match as with
  | [] => none
  | [a] => bnd a (fun x => fun z => match f [x] z with
    | none => none
    | some d => some (d, z)) z
  | _ => bnd (args as) (fun xs z => match f xs z with
    | none => none
    | some d => some (d, z)) z
def ite (t : M Bool) (a b : M D) : M D := bnd t fun k => if k = true then a else b
def and (a b : M D) : M D := bnd a fun x => match x with
  | .bl true => b
  | .bl false => ret (.bl false)
  | _ => fun _ => none
def or (a b : M D) : M D := bnd a fun x => match x with
  | .bl false => b
  | .bl true => ret (.bl true)
  | _ => fun _ => none
def not (a : M D) : M D := bnd a fun x => match x with
  | .bl k => ret (.bl (!k))
  | _ => fun _ => none
/-- a < b < c by two operations -/
def chain (f g : D → D → Z → Option D) (a b c : M D) : M D := bnd a fun x => bnd b fun y => fun z => match f x y z with
  | some (.bl true) => bnd c (fun w z => match g y w z with
    | some (.bl k) => some (.bl k, z)
    | _ => none) z
  | some (.bl false) => some (.bl false, z)
  | _ => none
def isN (a : M D) : M D := bnd a fun x => match x with
  | .non => ret (.bl true)
  | _ => ret (.bl false)
def notN (a : M D) : M D := bnd a fun x => match x with
  | .non => ret (.bl false)
  | _ => ret (.bl true)
/-- xs.m(..) of a list that is changed: f takes the items and the arguments to a value and the items -/
def chgF (f : List D → List D → Option (D × List D)) (x : D) (xs : List D) : M D := fun z => match x with
  | .own i => match z.s[i]? with
    | some (.own (.lst ds)) => match f ds xs with
      | none => none
      | some (d, ds') => some (d, ⟨z.s.set i (.own (.lst ds')), z.h⟩)
    | _ => none
  | .ref n => match z.h[n]? with
    | some (.lst ds) => match f ds xs with
      | none => none
      | some (d, ds') => some (d, ⟨z.s, z.h.set n (.lst ds')⟩)
    | _ => none
  | _ => none
def isLst (x : D) (z : Z) : Bool := match x with
  | .own _ => (cont x z).isSome
  | .ref _ => (cont x z).isSome
  | _ => false
def chg (f : List D → List D → Option (D × List D)) (a : M D) (as : List (M D)) : M D := bnd a fun x => fun z => if isLst x z = true then bnd (args as) (fun xs => chgF f x xs) z else none
end E

/-! ### operations -/
def bigN : Nat := 4096
/-- an int of a size that products take -/
def smI (i : Int) : Prop := i.natAbs < 2 ^ bigN
namespace O
def add : D → D → Z → Option D
  | .int i, .int j, _ => some (.int (i + j))
  | _, _, _ => none
def sub : D → D → Z → Option D
  | .int i, .int j, _ => some (.int (i - j))
  | _, _, _ => none
open Classical in
noncomputable def mul : D → D → Z → Option D
  | .int i, .int j, _ => if smI i ∧ smI j then some (.int (i * j)) else none
  | _, _, _ => none
open Classical in
noncomputable def div : D → D → Z → Option D
  | .int i, .int j, _ => if 0 < j ∧ smI j then some (.int (i / j)) else none
  | _, _, _ => none
def mod : D → D → Z → Option D
  | .int i, .int j, _ => if 0 < j then some (.int (i % j)) else none
  | _, _, _ => none
def lt : D → D → Z → Option D
  | .int i, .int j, _ => some (.bl (decide (i < j)))
  | _, _, _ => none
def le : D → D → Z → Option D
  | .int i, .int j, _ => some (.bl (decide (i ≤ j)))
  | _, _, _ => none
def gt : D → D → Z → Option D
  | .int i, .int j, _ => some (.bl (decide (j < i)))
  | _, _, _ => none
def ge : D → D → Z → Option D
  | .int i, .int j, _ => some (.bl (decide (j ≤ i)))
  | _, _, _ => none
def neg : D → Z → Option D
  | .int i, _ => some (.int (-i))
  | _, _ => none
def ix (x y : D) (z : Z) : Option D := match cont x z, y with
  | some (_, ds), .int i => atI ds i
  | _, _ => none
mutual
def toP : D → Option PyData
  | .non => some .none
  | .bl b => some (.bool b)
  | .int i => some (.int i)
  | .str x => some (.str x)
  | .tup xs => (toPs xs).map .tuple
  | .kt xs => (toPs xs).map .tuple
  | .lst xs => (toPs xs).map .list
  | .scr xs => (toPs xs).map .list
  | _ => none
def toPs : List D → Option (List PyData)
  | [] => some []
  | x :: xs => match toP x, toPs xs with
    | some a, some as => some (a :: as)
    | _, _ => none
end
/-- a list that may change, as it stands -/
def snap (x : D) (z : Z) : D := match x with
  | .own _ => match cont x z with
    | some (_, ds) => .lst ds
    | none => .own 0
  | .ref _ => match cont x z with
    | some (_, ds) => .lst ds
    | none => .own 0
  | _ => x
def eqD (x y : D) (z : Z) : Option Bool := match toP (snap x z), toP (snap y z) with
  | some a, some b => if SeqAt.shaped a = true ∧ SeqAt.shaped b = true then some (PyData.eqv a b) else none
  | _, _ => none
def eqP (x y : D) (z : Z) : Option Bool := match x, y with
  | .str a, .str b => some (decide (a = b))
  | x, y => eqD x y z
def eq (x y : D) (z : Z) : Option D := (eqP x y z).map .bl
def ne (x y : D) (z : Z) : Option D := (eqP x y z).map fun k => .bl (!k)
def flat : D → Bool
  | .non => true
  | .bl _ => true
  | .int _ => true
  | .str _ => true
  | _ => false
def eqF : D → D → Bool
  | .non, .non => true
  | .bl a, .bl b => a == b
  | .bl a, .int b => (if a then 1 else 0) == b
  | .int a, .bl b => a == (if b then 1 else 0)
  | .int a, .int b => a == b
  | .str a, .str b => a == b
  | _, _ => false
def isIn (x y : D) (z : Z) : Option D := match cont y z with
  | some (_, ds) => if flat x = true ∧ ds.all flat = true then some (.bl (ds.any fun y => eqF y x)) else none
  | none => none
def notIn (x y : D) (z : Z) : Option D := match cont y z with
  | some (_, ds) => if flat x = true ∧ ds.all flat = true then some (.bl (!ds.any fun y => eqF y x)) else none
  | none => none
/-- truth -/
def tru (x : D) (z : Z) : Option Bool := match x with
  | .non => some false
  | .bl b => some b
  | .int i => some (i != 0)
  | _ => match cont x z with
    | some (_, ds) => some (!ds.isEmpty)
    | none => none
end O

/-! ### built-ins by values -/
namespace F
def len : List D → Z → Option D
  | [x], z => match cont x z with
    | some (_, ds) => some (.int ds.length)
    | none => none
  | _, _ => none
def abs : List D → Z → Option D
  | [.int i], _ => some (.int (if i < 0 then -i else i))
  | _, _ => none
def max2 : List D → Z → Option D
  | [.int i, .int j], _ => some (.int (if j > i then j else i))
  | _, _ => none
def min2 : List D → Z → Option D
  | [.int i, .int j], _ => some (.int (if j < i then j else i))
  | _, _ => none
def int1 : List D → Z → Option D
  | [.int i], _ => some (.int i)
  | _, _ => none
def tuple : List D → Z → Option D
  | [.kt _], _ => none
  | [x], z => match cont x z with
    | some (_, ds) => some (.tup ds)
    | none => none
  | _, _ => none
def ofInts : List D → Option (List Int)
  | [] => some []
  | .int i :: r => (ofInts r).map (i :: ·)
  | _ :: _ => none
def ofBools : List D → Option (List Bool)
  | [] => some []
  | .bl i :: r => (ofBools r).map (i :: ·)
  | _ :: _ => none
/-- of a list (no tuple) -/
def lstI (x : D) (z : Z) : Option (List Int) := match cont x z with
  | some (false, ds) => ofInts ds
  | _ => none
def lstB (x : D) (z : Z) : Option (List Bool) := match cont x z with
  | some (false, ds) => ofBools ds
  | _ => none
def sum : List D → Z → Option D
  | [x], z => (lstI x z).map fun ns => .int ns.sum
  | _, _ => none
def maxL : List Int → Option Int
  | [] => none
  | x :: xs => some (xs.foldl (fun a b => if a < b then b else a) x)
def minL : List Int → Option Int
  | [] => none
  | x :: xs => some (xs.foldl (fun a b => if b < a then b else a) x)
def max1 : List D → Z → Option D
  | [x], z => match lstI x z with
    | some ns => (maxL ns).map .int
    | none => none
  | _, _ => none
def min1 : List D → Z → Option D
  | [x], z => match lstI x z with
    | some ns => (minL ns).map .int
    | none => none
  | _, _ => none
def all1 : List D → Z → Option D
  | [x], z => (lstB x z).map fun bs => .bl (bs.all id)
  | _, _ => none
def any1 : List D → Z → Option D
  | [x], z => (lstB x z).map fun bs => .bl (bs.any id)
  | _, _ => none
/-- isinstance(x, T) of a built-in class T: the class's name given -/
def tyName : D → Z → Option String
  | .non, _ => some "NoneType"
  | .bl _, _ => some "bool"
  | .int _, _ => some "int"
  | .str _, _ => some "str"
  | .tup _, _ => some "tuple"
  | .kt _, _ => some "tuple"
  | .lst _, _ => some "list"
  | .ref n, z => match z.h[n]? with
    | some (.lst _) => some "list"
    | _ => none
  | .own i, z => match z.s[i]? with
    | some (.own (.lst _)) => some "list"
    | _ => none
  | _, _ => none
end F

/-! ### changes of a list -/
namespace U
def append (ds xs : List D) : Option (D × List D) := match xs with
  | [x] => if ds.length < szl then some (.non, ds ++ [x]) else none
  | _ => none
def pop (ds xs : List D) : Option (D × List D) := match xs with
  | [] => match ds[ds.length - 1]? with
    | some d => some (d, ds.dropLast)
    | none => none
  | _ => none
def popAt (ds xs : List D) : Option (D × List D) := match xs with
  | [.int i] => if -(2 ^ 63) ≤ i ∧ i < 2 ^ 63 then match ixN ds.length i with
    | some k => match ds[k]? with
      | some d => some (d, ds.eraseIdx k)
      | none => none
    | none => none else none
  | _ => none
/-- extend by a list that stands still -/
def extend (ds xs : List D) : Option (D × List D) := match xs with
  | [.lst ys] => if ds.length + ys.length < szl then some (.non, ds ++ ys) else none
  | _ => none
def setAt (ds : List D) (i : Int) (x : D) : Option (List D) := (ixN ds.length i).map fun k => ds.set k x
end U

/-! ### new lists -/
namespace N
def disp (as : List (M D)) : M (List D) := E.args as
def ofSeq (a : M D) : M (List D) := bnd a fun x z => match cont x z with
  | some (_, ds) => some (ds, z)
  | none => none
def cutI (n d : Nat) (o : Option Int) : Nat := HT.sIx n d o
def cutL {α : Type} (ds : List α) (lo hi : Option Int) : List α := (ds.drop (HT.sIx ds.length 0 lo)).take (HT.sIx ds.length ds.length hi - HT.sIx ds.length 0 lo)
def part (a : Option (M D)) : M (Option Int) := match a with
  | none => ret none
  | some m => bnd m fun x => match x with
    | .int i => ret (some i)
    | _ => fun _ => none
/-- xs[lo:hi] of a list -/
def slice (a : M D) (lo hi : Option (M D)) : M (List D) := bnd a fun x => bnd (part lo) fun l => bnd (part hi) fun u z => match cont x z with
  | some (false, ds) => some (cutL ds l u, z)
  | _ => none
/-- xs + ys of lists -/
def cat (a b : M D) : M (List D) := bnd a fun x => bnd b fun y z => match x, y with
  | .scr _, _ => none
  | _, .scr _ => none
  | _, _ => match cont x z, cont y z with
    | some (false, ds), some (false, es) => if ds.length + es.length < szl then some (ds ++ es, z) else none
    | _, _ => none
end N

/-! ### tests -/
namespace T
def val (a : M D) : M Bool := bnd a fun x => match x with
  | .bl k => ret k
  | _ => fun _ => none
def tru (a : M D) : M Bool := bnd a fun x z => match O.tru x z with
  | some k => some (k, z)
  | none => none
def and (a b : M Bool) : M Bool := bnd a fun k => if k = true then b else ret false
def or (a b : M Bool) : M Bool := bnd a fun k => if k = true then ret true else b
def not (a : M Bool) : M Bool := bnd a fun k => ret (!k)
end T

/-! ### targets -/
/-- a target: which slots it sets, and how -/
structure G where
  ws : List Nat
  run : D → Z → Option Z
namespace G
def nm (i : Nat) : G := ⟨[i], fun d z => some ⟨z.s.set i (.val d), z.h⟩⟩
def runs : List G → List D → Z → Option Z
  | [], [], z => some z
  | g :: gs, d :: ds, z => match g.run d z with
    | none => none
    | some z1 => runs gs ds z1
  | _, _, _ => none
def tp (gs : List G) : G := ⟨gs.flatMap G.ws, fun d z => match d with
  | .tup ds => runs gs ds z
  | .kt ds => runs gs ds z
  | _ => none⟩
/-- .. of a list -/
def tl (gs : List G) : G := ⟨gs.flatMap G.ws, fun d z => match d with
  | .lst ds => runs gs ds z
  | _ => none⟩
end G

/-! ### what is walked -/
structure It where
  items : List D
  chk : Option D
open Classical in
noncomputable def It.ok (it : It) (z : Z) : Bool := match it.chk with
  | none => true
  | some d => if ∃ b, cont d z = some (b, it.items) then true else false
namespace I
def seq (a : M D) : M It := bnd a fun x z => match x with
  | .lst xs => some (⟨xs, none⟩, z)
  | .tup xs => some (⟨xs, none⟩, z)
  | .kt xs => some (⟨xs, none⟩, z)
  | .scr xs => some (⟨xs, none⟩, z)
  | .ref _ => match cont x z with
    | some (_, xs) => some (⟨xs, some x⟩, z)
    | none => none
  | _ => none
/-- in a comprehension a slot's own list, too -/
def seqF (x : D) (z : Z) : Option (It × Z) := match x with
  | .lst xs => some (⟨xs, none⟩, z)
  | .tup xs => some (⟨xs, none⟩, z)
  | .kt xs => some (⟨xs, none⟩, z)
  | .scr xs => some (⟨xs, none⟩, z)
  | .ref _ => match cont x z with
    | some (_, xs) => some (⟨xs, some x⟩, z)
    | none => none
  | .own _ => match cont x z with
    | some (_, xs) => some (⟨xs, some x⟩, z)
    | none => none
  | _ => none
def seqC (a : M D) : M It := bnd a seqF
def irng (lo : Int) (n : Nat) : List D := (List.range n).map fun i => D.int (lo + (i : Nat))
def rng1 (a : M D) : M It := bnd a fun x => match x with
  | .int n => if -(2 ^ 62) ≤ n ∧ n < 2 ^ 62 then ret ⟨irng 0 n.toNat, none⟩ else fun _ => none
  | _ => fun _ => none
def rng2 (a b : M D) : M It := bnd a fun x => bnd b fun y => match x, y with
  | .int i, .int j => if (-(2 ^ 62) ≤ i ∧ i < 2 ^ 62) ∧ -(2 ^ 62) ≤ j ∧ j < 2 ^ 62 then ret ⟨irng i (j - i).toNat, none⟩ else fun _ => none
  | _, _ => fun _ => none
end I

/-! ### comprehensions -/
namespace N
def wipe (s : List Sl) : List Nat → List Sl
  | [] => s
  | v :: vs => (wipe s vs).set v .no
def rest (s0 s : List Sl) : List Nat → List Sl
  | [] => s
  | v :: vs => match s0[v]? with
    | some x => (rest s0 s vs).set v x
    | none => rest s0 s vs
def isOwn : Option Sl → Bool
  | some (.own _) => true
  | _ => false
noncomputable def loop (it : It) (g : G) (vs : List Nat) (tt : M Bool) (te : M D) : List D → List D → Z → Option (List D × Z)
  | [], acc, z => if it.ok z = true then some (acc, z) else none
  | d :: ds, acc, z => if it.ok z = true then match g.run d z with
    | none => none
    | some z1 => match tt z1 with
      | none => none
      | some (false, z2) => loop it g vs tt te ds acc ⟨wipe z2.s vs, z2.h⟩
      | some (true, z2) => match te z2 with
        | none => none
        | some (x, z3) => if isPure x = true then loop it g vs tt te ds (acc ++ [x]) ⟨wipe z3.s vs, z3.h⟩ else none
    else none
noncomputable def comp (mi : M It) (g : G) (vs : List Nat) (tt : M Bool) (te : M D) : M (List D) := bnd mi fun it z =>
  if it.items.length ≤ szl ∧ (vs.all fun v => !isOwn z.s[v]?) = true then match loop it g vs tt te it.items [] ⟨wipe z.s vs, z.h⟩ with
    | none => none
    | some (acc, z1) => some (acc, ⟨rest z.s z1.s vs, z1.h⟩)
  else none
end N

/-! ### statements -/
inductive Fl where
  | nx | bk | ct | rt (d : D)
abbrev C := Z → Option (Fl × Z)
namespace C
def skip : C := fun z => some (.nx, z)
def seq (a b : C) : C := fun z => match a z with
  | some (.nx, z1) => b z1
  | r => r
def set (i : Nat) (e : M D) : C := bnd e fun d z => if isPure d = true then some (.nx, ⟨z.s.set i (.val d), z.h⟩) else none
/-- target = e -/
def asg (g : G) (e : M D) : C := bnd e fun d z => if isPure d = true then match g.run d z with
    | some z1 => some (.nx, z1)
    | none => none
  else none
/-- the slot owns the new list -/
def own (i : Nat) (e : M (List D)) : C := bnd e fun ds z => if i < z.s.length then some (.nx, ⟨z.s.set i (.own (.lst ds)), z.h⟩) else none
/-- the slot's list is not changed any more -/
def frz (i : Nat) : C := fun z => match z.s[i]? with
  | some (.own (.lst ds)) => some (.nx, ⟨z.s.set i (.val (.lst ds)), z.h⟩)
  | _ => none
def drop (e : M D) : C := bnd e fun _ z => some (.nx, z)
def ret (e : M D) : C := bnd e fun d z => match d with
  | .own i => match z.s[i]? with
    | some (.own (.lst ds)) => some (.rt (.lst ds), ⟨z.s.set i .no, z.h⟩)
    | _ => none
  | _ => some (.rt d, z)
/-- a slot's own list goes to the shared heap -/
def retS (e : M D) : C := bnd e fun d z => match d with
  | .own i => match z.s[i]? with
    | some (.own (.lst ds)) => some (.rt (.ref z.h.length), ⟨z.s.set i .no, z.h ++ [.lst ds]⟩)
    | _ => none
  | _ => none
def retN : C := fun z => some (.rt .non, z)
def ite (t : M Bool) (a b : C) : C := bnd t fun k => if k = true then a else b
def brk : C := fun z => some (.bk, z)
def cnt : C := fun z => some (.ct, z)
/-- a[i] = e, a list that may change -/
def setIx (a i e : M D) : C := bnd e fun d => bnd a fun x => bnd i fun y z => if isPure d = true then match x, y with
    | .own k, .int j => match z.s[k]? with
      | some (.own (.lst ds)) => match U.setAt ds j d with
        | some ds' => some (.nx, ⟨z.s.set k (.own (.lst ds')), z.h⟩)
        | none => none
      | _ => none
    | .ref n, .int j => match z.h[n]? with
      | some (.lst ds) => match U.setAt ds j d with
        | some ds' => some (.nx, ⟨z.s, z.h.set n (.lst ds')⟩)
        | none => none
      | _ => none
    | _, _ => none
  else none
/-- x op= e -/
def aug (i : Nat) (f : D → D → Z → Option D) (e : M D) : C := fun z => match z.s[i]? with
  | some (.val x) => bnd e (fun y z => match f x y z with
    | some d => if isPure d = true then some (.nx, ⟨z.s.set i (.val d), z.h⟩) else none
    | none => none) z
  | _ => none
noncomputable def loop (it : It) (g : G) (b : C) : List D → C
  | [] => fun z => if it.ok z = true then some (.nx, z) else none
  | d :: ds => fun z => if it.ok z = true then match g.run d z with
    | none => none
    | some z1 => match b z1 with
      | none => none
      | some (.nx, z2) => loop it g b ds z2
      | some (.ct, z2) => loop it g b ds z2
      | some (.bk, z2) => some (.nx, z2)
      | some (.rt d, z2) => some (.rt d, z2)
    else none
noncomputable def for_ (mi : M It) (g : G) (b : C) : C := bnd mi fun it => loop it g b it.items
def whl (t : M Bool) (b : C) : C := fun z => match t z with
  | none => none
  | some (false, z1) => some (.nx, z1)
  | some (true, z1) => match b z1 with
    | none => none
    | some (.nx, z2) => whl t b z2
    | some (.ct, z2) => whl t b z2
    | some (.bk, z2) => some (.nx, z2)
    | some (.rt d, z2) => some (.rt d, z2)
partial_fixpoint
end C
/-- a def by its body: n slots, k parameters -/
def fn (n k : Nat) (b : C) : Fn := fun ds h => if ds.length = k then match b ⟨slots n ds, h⟩ with
    | some (.rt d, z) => some (d, z.h)
    | some (.nx, z) => some (.non, z.h)
    | _ => none
  else none
end Mi

set_option Elab.async false
set_option linter.all false
set_option maxRecDepth 100000
/-! Mi, part D: the meanings are kept by the model: expressions and tests. -/
namespace Mi
open PySem PySem.Spec PyProof.Rows L2

abbrev RelT (α β : Type) := Bs → Hp → List Addr → (Nat → Option Addr) → Hp → α → β → Prop
/-- from the state z the meaning m goes on as Q wants -/
def Go (K : Kx) {α β : Type} (R : RelT α β) (B : Bs) (F : Hp) (rho : List Addr) (om : Nat → Option Addr) (m : M α) (z : Z) (σ : L2.St) (H : Hp) (Q : β → Hp → Prop) : Prop :=
  Rl K B F rho om z σ H ∧ ∃ x z', m z = some (x, z') ∧ ∀ F' rho' H' y, Same F F' → rho <+: rho' → Rl K B F' rho' om z' σ H' → R B F' rho' om H' x y → Q y H'
def Tx (K : Kx) {α β : Type} (R : RelT α β) (m : M α) : L2.St → Hp → (β → Hp → Prop) → Prop := fun σ H Q => ∃ B F rho om z, Go K R B F rho om m z σ H Q
abbrev rV (K : Kx) : RelT D V := fun _ F rho om _ d v => Rv K F rho om d v
abbrev rB : RelT Bool Bool := fun _ _ _ _ _ a b => b = a
abbrev rA (K : Kx) : RelT (List D) (List V) := fun _ F rho _ _ ds vs => Rps K F rho ds vs
abbrev rF (K : Kx) : RelT (List D) V := fun B F rho om H ds v => ∃ p xs, v = .ref p ∧ H p = some (.lst xs) ∧ Fresh K B F rho om H p ∧ Rps K F rho ds xs
abbrev rO : RelT (Option Int) (Option Int) := fun _ _ _ _ _ a b => b = a
abbrev Te (K : Kx) (m : M D) : TE := Tx K (rV K) m
abbrev Tt (K : Kx) (m : M Bool) : TT := Tx K rB m
abbrev Ta (K : Kx) (m : M (List D)) : TA := Tx K (rA K) m
abbrev Tf (K : Kx) (m : M (List D)) : TE := Tx K (rF K) m
abbrev To (K : Kx) (m : M (Option Int)) : TO := Tx K rO m

theorem bnd_some {α β : Type} {a : M α} {f : α → M β} {z z' : Z} {y : β} (h : bnd a f z = some (y, z')) : ∃ x z1, a z = some (x, z1) ∧ f x z1 = some (y, z') := by
  unfold bnd at h
  split at h
  · cases h
  · exact ⟨_, _, by assumption, h⟩

section
variable {K : Kx} {α β γ δ : Type} {R : RelT α β} {R' : RelT γ δ} {B : Bs} {F : Hp} {rho : List Addr} {om : Nat → Option Addr} {z : Z} {σ : L2.St} {H : Hp}
theorem Go.imp {m : M α} {Q Q' : β → Hp → Prop} (h : Go K R B F rho om m z σ H Q) (i : ∀ F' rho' H' x z' y, m z = some (x, z') → Same F F' → rho <+: rho' → Rl K B F' rho' om z' σ H' → R B F' rho' om H' x y → Q y H' → Q' y H') : Go K R B F rho om m z σ H Q' := by
  obtain ⟨r, x, z', e, k⟩ := h
  exact ⟨r, x, z', e, fun F' rho' H' y s p r' q => i F' rho' H' x z' y e s p r' q (k F' rho' H' y s p r' q)⟩
/-- one after another -/
theorem Go.bnd {a : M α} {f : α → M γ} {Q : δ → Hp → Prop} (h : Go K R' B F rho om (bnd a f) z σ H Q) :
    Go K R B F rho om a z σ H fun y H1 => ∃ F1 rho1 z1 x, a z = some (x, z1) ∧ Same F F1 ∧ rho <+: rho1 ∧ R B F1 rho1 om H1 x y ∧ Go K R' B F1 rho1 om (f x) z1 σ H1 Q := by
  obtain ⟨r, x, z', e, k⟩ := h
  obtain ⟨y, z1, e1, e2⟩ := bnd_some e
  exact ⟨r, y, z1, e1, fun F1 rho1 H1 v s1 p1 r1 q1 => ⟨F1, rho1, z1, y, e1, s1, p1, q1, r1, x, z', e2, fun F2 rho2 H2 w s2 p2 r2 q2 => k F2 rho2 H2 w (s1.trans s2) (p1.trans p2) r2 q2⟩⟩
theorem Go.ret {x : α} {Q : β → Hp → Prop} (h : Go K R B F rho om (ret x) z σ H Q) : ∀ y, R B F rho om H x y → Q y H := by
  obtain ⟨r, x', z', e, k⟩ := h
  unfold Mi.ret at e
  cases e
  exact fun y q => k F rho H y (Same.refl F) (List.prefix_refl _) r q
theorem Go.tx {m : M α} {Q : β → Hp → Prop} (h : Go K R B F rho om m z σ H Q) : Tx K R m σ H Q := ⟨B, F, rho, om, z, h⟩
/-- the end of an evaluation that changes nothing more -/
theorem Go.fin {m : M α} {Q : β → Hp → Prop} {x : α} (h : Go K R B F rho om m z σ H Q) (e : m z = some (x, z)) : ∀ y, R B F rho om H x y → Q y H := by
  obtain ⟨r, x', z', e', k⟩ := h
  rw [e] at e'
  cases e'
  exact fun y q => k F rho H y (Same.refl F) (List.prefix_refl _) r q
end

section
variable {K : Kx} {B : Bs} {F : Hp} {rho : List Addr} {om : Nat → Option Addr} {z : Z} {σ : L2.St} {H : Hp}
/-- a list or tuple, read -/
theorem cont_ok (R : Rl K B F rho om z σ H) {d : D} {v : V} {t : Bool} {ds : List D} (r : Rv K F rho om d v) (e : cont d z = some (t, ds)) :
    ∃ a xs, v = .ref a ∧ Rps K F rho ds xs ∧ ((t = false ∧ SqL K H a xs) ∨ (t = true ∧ SqT K H a xs)) := by
  cases r with
  | pure r =>
    cases r with
    | non => cases e
    | bl b => cases e
    | int i => cases e
    | str x => cases e
    | tup h q =>
      cases e
      exact ⟨_, _, rfl, q, .inr ⟨rfl, SqT.of (R.rh.fro _ _ h)⟩⟩
    | kt h q =>
      cases e
      exact ⟨_, _, rfl, q, .inr ⟨rfl, Same.sqt R.rh.fro h⟩⟩
    | lst h q =>
      cases e
      exact ⟨_, _, rfl, q, .inl ⟨rfl, SqL.of (R.rh.fro _ _ h)⟩⟩
    | scr h q =>
      cases e
      exact ⟨_, _, rfl, q, .inl ⟨rfl, R.rh.fro.seq h⟩⟩
    | @ref n a h =>
      have e : (match z.h[n]? with | some (.lst xs) => some (false, xs) | _ => none) = some (t, ds) := e
      split at e
      · rename_i xs hx
        cases e
        obtain ⟨ys, h1, h2⟩ := R.rh.obs n _ a hx h
        exact ⟨a, ys, rfl, h2, .inl ⟨rfl, SqL.of h1⟩⟩
      · cases e
    | dk => cases e
    | dt => cases e
    | ins => cases e
  | @own i a h =>
    have e : (match z.s[i]? with | some (.own (.lst xs)) => some (false, xs) | _ => none) = some (t, ds) := e
    split at e
    · rename_i xs hx
      cases e
      obtain ⟨a', h1, _, h2⟩ := R.sl i _ hx
      rw [h] at h1
      cases h1
      obtain ⟨ys, h3, h4⟩ := h2
      exact ⟨a, ys, rfl, h4, .inl ⟨rfl, SqL.of h3⟩⟩
    · cases e
theorem Rv.of_pure {d : D} {v : V} (r : Rv K F rho om d v) (h : isPure d = true) : Rp K F rho d v := by
  cases r with
  | pure r => exact r
  | own _ => cases h
theorem Rp.isPure {d : D} {v : V} (r : Rp K F rho d v) : isPure d = true := by cases r <;> rfl
end

/-! ### a reading in another one's place -/
section
variable {X : Cx} {Tb : List (Addr × Str)}
theorem pe_imp {e : Expr} {t t' : TE} (h : PE X e t) (i : ∀ σ H Q, t' σ H Q → t σ H Q) : PE X e t' := ⟨fun pins s σ H Q I hw => h.run pins s σ H Q I (i σ H Q hw)⟩
theorem pt_imp {e : Expr} {t t' : TT} (h : PT X e t) (i : ∀ σ H Q, t' σ H Q → t σ H Q) : PT X e t' := ⟨fun pins s σ H Q I hw => h.run pins s σ H Q I (i σ H Q hw)⟩
theorem pw_imp {e : Expr} {t t' : TT} (h : PW X e t) (i : ∀ σ H Q, t' σ H Q → t σ H Q) : PW X e t' := ⟨fun wh pins s σ H Q I hw => h.run wh pins s σ H Q I (i σ H Q hw)⟩
theorem pa_imp {es : List Expr} {t t' : TA} (h : PA X es t) (i : ∀ σ H Q, t' σ H Q → t σ H Q) : PA X es t' := ⟨fun pos pins s σ H Q I hw => h.run pos pins s σ H Q I (i σ H Q hw)⟩
theorem ps_imp {st : Stmt} {t t' : TS} (h : PS X st t) (i : ∀ D σ H, t' D σ H → t D σ H) : PS X st t' := ⟨fun pins s σ H D I hw => h.run pins s σ H D I (i D σ H hw)⟩
theorem pss_imp {st : List Stmt} {t t' : TS} (h : PSs X st t) (i : ∀ D σ H, t' D σ H → t D σ H) : PSs X st t' := ⟨fun pins s σ H D I hw => h.run pins s σ H D I (i D σ H hw)⟩
theorem pg_imp {e : Expr} {t t' : TG} (h : PG X e t) (i : ∀ v σ H Q, t' v σ H Q → t v σ H Q) : PG X e t' := ⟨fun pins s σ H v u Q I r hw => h.run pins s σ H v u Q I r (i v σ H Q hw)⟩
theorem pgs_imp {es : List Expr} {t t' : TGs} (h : PGs X es t) (i : ∀ vs σ H Q, t' vs σ H Q → t vs σ H Q) : PGs X es t' := ⟨fun pins s σ H vs us Q I r hw => h.run pins s σ H vs us Q I r (i vs σ H Q hw)⟩
theorem pi_imp {tg e : Expr} {t t' : TI} (h : PI X tg e t) (i : ∀ σ H R, t' σ H R → t σ H R) : PI X tg e t' := ⟨fun pins s σ H R I hw => h.run pins s σ H R I (i σ H R hw)⟩
theorem pts_imp {es : List Expr} {t t' : TT} (h : PTs X es t) (i : ∀ σ H Q, t' σ H Q → t σ H Q) : PTs X es t' := ⟨fun pins s σ H Q I hw => h.run pins s σ H Q I (i σ H Q hw)⟩
theorem po_imp {e : Option Expr} {t t' : TO} (h : PO X e t) (i : ∀ σ H Q, t' σ H Q → t σ H Q) : PO X e t' := ⟨fun pins s σ H Q I hw => h.run pins s σ H Q I (i σ H Q hw)⟩

/-! ### names, constants -/
theorem me_var (i : Nat) {x : Str} {pos : Pos} (hN : X.N[i]? = some x := by rfl) (hv : Vis X.env.scope x := by first | exact Or.inl rfl | exact Or.inr (Or.inl rfl) | exact Or.inr (Or.inr rfl)) (hd : (x == ("__debug__" : Str)) = false := by decide)
    (hcd : (x == ("__classdict__" : Str)) = false := by decide) : PE X (.Name x pos) (Te (kx X Tb) (E.var i)) := by
  refine pe_imp (pe_var hN hv hd hcd) fun σ H Q ⟨B, F, rho, om, z, R, d, z', e, k⟩ => ?_
  unfold E.var at e
  split at e
  · rename_i d' hd'
    cases e
    obtain ⟨v, h1, h2⟩ := R.sl i _ hd'
    exact ⟨v, h1, k F rho H v (Same.refl F) (List.prefix_refl _) R (.pure h2)⟩
  · rename_i d' hd'
    cases e
    obtain ⟨a, h1, h2, h3⟩ := R.sl i _ hd'
    exact ⟨_, h2, k F rho H _ (Same.refl F) (List.prefix_refl _) R (.own h1)⟩
  · cases e
/-- a constant's reading -/
theorem tc_ok {K : Kx} {d : D} {v : V} (h : ∀ F rho, Rp K F rho d v) : ∀ σ H Q, Te K (E.c d) σ H Q → tC v σ H Q := fun σ H Q ⟨B, F, rho, om, z, g⟩ => g.ret v (.pure (h F rho))
theorem me_int {i j pos} : PE X (.Constant (.int i) j pos) (Te (kx X Tb) (E.c (.int i))) := pe_imp pe_int (tc_ok fun _ _ => .int i)
theorem me_bl {b j pos} : PE X (.Constant (.bool b) j pos) (Te (kx X Tb) (E.c (.bl b))) := pe_imp pe_bl (tc_ok fun _ _ => .bl b)
theorem me_non {j pos} : PE X (.Constant .none j pos) (Te (kx X Tb) (E.c .non)) := pe_imp pe_non (tc_ok fun _ _ => .non)
theorem me_str {x j pos} : PE X (.Constant (.str x) j pos) (Te (kx X Tb) (E.c (.str x))) := pe_imp pe_str (tc_ok fun _ _ => .str x)
/-- a module's constant -/
theorem me_glob {x : Str} {d : D} {v : V} {u : Value} {pos : Pos} (hg : Gl X x) (hm : X.mg x = some u) (r : RelV v u) (h : ∀ F rho, Rp (kx X Tb) F rho d v) (hd : (x == ("__debug__" : Str)) = false := by decide) : PE X (.Name x pos) (Te (kx X Tb) (E.c d)) :=
  pe_imp (pe_glob hg hm r hd) (tc_ok h)

/-! ### arguments -/
theorem ma_nil : PA X [] (Ta (kx X Tb) (E.args [])) := pa_imp pa_nil fun σ H Q ⟨B, F, rho, om, z, g⟩ => g.ret [] .nil
theorem ma_cons {e : Expr} {es : List Expr} {m : M D} {ms : List (M D)} (ha : PE X e (Te (kx X Tb) m)) (hr : PA X es (Ta (kx X Tb) (E.args ms))) (hs : starEach (e :: es) X.env = (false, eval e X.env) :: starEach es X.env := by rfl) :
    PA X (e :: es) (Ta (kx X Tb) (E.args (m :: ms))) := by
  refine pa_imp (pa_cons ha hr hs) fun σ H Q ⟨B, F, rho, om, z, g⟩ => ?_
  refine (g.bnd.imp fun F1 rho1 H1 x z1 y _ _ _ _ _ ⟨F2, rho2, z2, x2, eg1, s1, p1, r1, g1⟩ => ?_).tx (R := rV (kx X Tb))
  refine (g1.bnd.imp fun F3 rho3 H3 xs z3 ys _ _ _ _ _ ⟨F4, rho4, z4, xs4, eg2, s2, p2, r2, g2⟩ => ?_).tx (R := rA (kx X Tb))
  by_cases hp : isPure x2 = true
  · rw [if_pos hp] at g2
    exact g2.ret _ (.cons ((r1.mono s2 p2).of_pure hp) r2)
  · rw [if_neg hp] at g2
    obtain ⟨_, _, _, e, _⟩ := g2
    cases e
/-- one argument, of any kind -/
theorem ta_one {K : Kx} {m : M D} {σ : L2.St} {H : Hp} {Q : List V → Hp → Prop} (h : Te K m σ H fun v H1 => Q [v] H1) : tCons (Te K m) tNil σ H Q := h
end
end Mi

set_option Elab.async false
set_option linter.all false
set_option maxRecDepth 100000
/-! Mi, part D2: operations, displays, calls. -/
namespace Mi
open PySem PySem.Spec PyProof.Rows L2
section
variable {X : Cx} {Tb : List (Addr × Str)}
/-- a two-place operation of values and its rule -/
def OpV (K : Kx) (r : R2) (f : D → D → Z → Option D) : Prop :=
  ∀ {B : Bs} {F : Hp} {rho : List Addr} {om : Nat → Option Addr} {z : Z} {σ : L2.St} {H : Hp} {x y : D} {xv yv : V} {d : D}, Rl K B F rho om z σ H → Rv K F rho om x xv → Rv K F rho om y yv → f x y z = some d →
    ∀ Q : VK, (∀ F' H' v, Same F F' → Rl K B F' rho om z σ H' → Rv K F' rho om d v → Q v H') → r xv yv H Q
theorem op_go {K : Kx} {r : R2} {f : D → D → Z → Option D} (hv : OpV K r f) {ma mb : M D} : ∀ σ H Q, Te K (E.op f ma mb) σ H Q → tOp r (Te K ma) (Te K mb) σ H Q := by
  rintro σ H Q ⟨B, F, rho, om, z, g⟩
  refine (g.bnd.imp fun _ _ H1 _ _ xv _ _ _ _ _ ⟨F2, rho2, z2, x2, eg1, s1, p1, r1, g1⟩ => ?_).tx (R := rV K)
  refine (g1.bnd.imp fun _ _ H2 _ _ yv _ _ _ _ _ ⟨F3, rho3, z3, y3, eg2, s2, p2, r2, g2⟩ => ?_).tx (R := rV K)
  obtain ⟨R, d, z4, e, k⟩ := g2
  dsimp only at e
  split at e
  · cases e
  · rename_i d' hd
    cases e
    exact hv R (r1.mono s2 p2) r2 hd Q fun F' H' v s R' q => k F' rho3 H' v s (List.prefix_refl _) R' q
def UnV (K : Kx) (r : V → Hp → VK → Prop) (f : D → Z → Option D) : Prop :=
  ∀ {B : Bs} {F : Hp} {rho : List Addr} {om : Nat → Option Addr} {z : Z} {σ : L2.St} {H : Hp} {x : D} {xv : V} {d : D}, Rl K B F rho om z σ H → Rv K F rho om x xv → f x z = some d →
    ∀ Q : VK, (∀ F' H' v, Same F F' → Rl K B F' rho om z σ H' → Rv K F' rho om d v → Q v H') → r xv H Q
theorem un_go {K : Kx} {r : V → Hp → VK → Prop} {f : D → Z → Option D} (hv : UnV K r f) {ma : M D} : ∀ σ H Q, Te K (E.un f ma) σ H Q → tUn r (Te K ma) σ H Q := by
  rintro σ H Q ⟨B, F, rho, om, z, g⟩
  refine (g.bnd.imp fun _ _ H1 _ _ xv _ _ _ _ _ ⟨F2, rho2, z2, x2, eg1, s1, p1, r1, g1⟩ => ?_).tx (R := rV K)
  obtain ⟨R, d, z4, e, k⟩ := g1
  dsimp only at e
  split at e
  · cases e
  · rename_i d' hd
    cases e
    exact hv R r1 hd Q fun F' H' v s R' q => k F' rho2 H' v s (List.prefix_refl _) R' q
/-- a rule of the model and its meaning, together -/
structure OpM (X : Cx) (g : Value → Value → Sem Value) (f : D → D → Z → Option D) : Prop where
  rl : ∃ r, OpR X g r ∧ ∀ Tb, OpV (kx X Tb) r f
theorem me_op {op : Operator} {f : D → D → Z → Option D} {a b : Expr} {pos : Pos} {ma mb : M D} (ho : OpM X (binaryOp op) f) (ha : PE X a (Te (kx X Tb) ma)) (hb : PE X b (Te (kx X Tb) mb)) : PE X (.BinOp a op b pos) (Te (kx X Tb) (E.op f ma mb)) := by
  obtain ⟨r, h1, h2⟩ := ho.rl
  exact pe_imp (pe_op h1 ha hb) (op_go (h2 _))
theorem me_cmp {op : CmpOp} {f : D → D → Z → Option D} {a b : Expr} {pos : Pos} {ma mb : M D} (ho : OpM X (compareOp op) f) (ha : PE X a (Te (kx X Tb) ma)) (hb : PE X b (Te (kx X Tb) mb)) (hm : behindInMarks op b = false) : PE X (.Compare a [op] [b] pos) (Te (kx X Tb) (E.op f ma mb)) := by
  obtain ⟨r, h1, h2⟩ := ho.rl
  exact pe_imp (pe_cmpR h1 ha hb hm) (op_go (h2 _))
/-- the reading of a test by an expression that gives True or False -/
theorem tv_go {K : Kx} {t : TE} {m : M D} (h : ∀ σ H Q, Te K m σ H Q → t σ H Q) : ∀ σ H Q, Tt K (T.val m) σ H Q → tTest t σ H Q := by
  rintro σ H Q ⟨B, F, rho, om, z, g⟩
  refine h σ H _ ((g.bnd.imp fun _ _ H1 _ _ xv _ _ _ _ _ ⟨F2, rho2, z2, x2, eg1, s1, p1, r1, g1⟩ => ?_).tx (R := rV K))
  cases r1 with
  | own _ => obtain ⟨_, _, _, e, _⟩ := g1; cases e
  | pure r1 =>
    cases r1 with
    | bl b => exact ⟨b, rfl, g1.ret b rfl⟩
    | _ => obtain ⟨_, _, _, e, _⟩ := g1; cases e
theorem mt_cmp {op : CmpOp} {f : D → D → Z → Option D} {a b : Expr} {pos : Pos} {ma mb : M D} (ho : OpM X (compareOp op) f) (ha : PE X a (Te (kx X Tb) ma)) (hb : PE X b (Te (kx X Tb) mb)) (hm : behindInMarks op b = false) : PT X (.Compare a [op] [b] pos) (Tt (kx X Tb) (T.val (E.op f ma mb))) := by
  obtain ⟨r, h1, h2⟩ := ho.rl
  exact pt_imp (pt_cmpR h1 ha hb hm) (tv_go (op_go (h2 _)))
theorem mt_val {e : Expr} {m : M D} (h : PE X e (Te (kx X Tb) m)) (he : ∀ whole, isTrue e X.env whole = (do let v ← whole; standAt e.pos; holding [v] (truthy v)) := by intro _; rfl) : PT X e (Tt (kx X Tb) (T.val m)) :=
  pt_imp (pt_val h he) (tv_go fun _ _ _ h => h)
/-- is None, is not None -/
theorem isN_go {K : Kx} {ma : M D} : ∀ σ H Q, Te K (E.isN ma) σ H Q → tIsN (Te K ma) σ H Q := by
  rintro σ H Q ⟨B, F, rho, om, z, g⟩
  refine (g.bnd.imp fun _ _ H1 _ _ xv _ _ _ _ _ ⟨F2, rho2, z2, x2, eg1, s1, p1, r1, g1⟩ => ?_).tx (R := rV K)
  cases r1 with
  | own _ => exact g1.ret _ (.pure (.bl false))
  | pure r1 =>
    cases r1 with
    | non => exact g1.ret _ (.pure (.bl true))
    | _ => exact g1.ret _ (.pure (.bl false))
theorem notN_go {K : Kx} {ma : M D} : ∀ σ H Q, Te K (E.notN ma) σ H Q → tNotN (Te K ma) σ H Q := by
  rintro σ H Q ⟨B, F, rho, om, z, g⟩
  refine (g.bnd.imp fun _ _ H1 _ _ xv _ _ _ _ _ ⟨F2, rho2, z2, x2, eg1, s1, p1, r1, g1⟩ => ?_).tx (R := rV K)
  cases r1 with
  | own _ => exact g1.ret _ (.pure (.bl true))
  | pure r1 =>
    cases r1 with
    | non => exact g1.ret _ (.pure (.bl false))
    | _ => exact g1.ret _ (.pure (.bl true))
theorem me_isN {a : Expr} {ma : M D} {pos pos' : Pos} {j} (ha : PE X a (Te (kx X Tb) ma)) : PE X (.Compare a [.Is] [.Constant .none j pos'] pos) (Te (kx X Tb) (E.isN ma)) := pe_imp (pe_cmp (pc_isN ha) (by rfl)) isN_go
theorem me_notN {a : Expr} {ma : M D} {pos pos' : Pos} {j} (ha : PE X a (Te (kx X Tb) ma)) : PE X (.Compare a [.IsNot] [.Constant .none j pos'] pos) (Te (kx X Tb) (E.notN ma)) := pe_imp (pe_cmp (pc_notN ha) (by rfl)) notN_go
theorem mt_isN {a : Expr} {ma : M D} {pos pos' : Pos} {j} (ha : PE X a (Te (kx X Tb) ma)) : PT X (.Compare a [.Is] [.Constant .none j pos'] pos) (Tt (kx X Tb) (T.val (E.isN ma))) := pt_imp (pt_cmp (pc_isN ha) (by rfl)) (tv_go isN_go)
theorem mt_notN {a : Expr} {ma : M D} {pos pos' : Pos} {j} (ha : PE X a (Te (kx X Tb) ma)) : PT X (.Compare a [.IsNot] [.Constant .none j pos'] pos) (Tt (kx X Tb) (T.val (E.notN ma))) := pt_imp (pt_cmp (pc_notN ha) (by rfl)) (tv_go notN_go)
/-- a < b < c -/
theorem chain_go {K : Kx} {r r' : R2} {f f' : D → D → Z → Option D} (hv : OpV K r f) (hv' : OpV K r' f') {ma mb mc : M D} : ∀ σ H Q, Te K (E.chain f f' ma mb mc) σ H Q → tChain r r' (Te K ma) (Te K mb) (Te K mc) σ H Q := by
  rintro σ H Q ⟨B, F, rho, om, z, g⟩
  refine (g.bnd.imp fun _ _ H1 _ _ xv _ _ _ _ _ ⟨F2, rho2, z2, x2, eg1, s1, p1, r1, g1⟩ => ?_).tx (R := rV K)
  refine (g1.bnd.imp fun _ _ H2 _ _ yv _ _ _ _ _ ⟨F3, rho3, z3, y3, eg2, s2, p2, r2, g2⟩ => ?_).tx (R := rV K)
  obtain ⟨R, d, z4, e, k⟩ := g2
  dsimp only at e
  split at e
  · rename_i hd
    refine hv R (r1.mono s2 p2) r2 hd _ fun F' H' v s R' q => ?_
    cases q with
    | pure q =>
      cases q
      refine ⟨true, rfl, ?_⟩
      rw [if_pos rfl]
      have g3 : Go K (rV K) B F' rho3 om _ z3 σ H' Q := ⟨R', d, z4, e, fun F4 rho4 H4 v4 s4 p4 R4 q4 => k F4 rho4 H4 v4 (s.trans s4) p4 R4 q4⟩
      refine (g3.bnd.imp fun _ _ H5 _ _ wv _ _ _ _ _ ⟨F6, rho6, z6, x6, eg6, s6, p6, r6, g6⟩ => ?_).tx (R := rV K)
      obtain ⟨R7, d7, z7, e7, k7⟩ := g6
      dsimp only at e7
      split at e7
      · rename_i c hc
        cases e7
        exact hv' R7 ((r2.mono s (List.prefix_refl _)).mono s6 p6) r6 hc _ fun F8 H8 v8 s8 R8 q8 => by
          cases q8 with
          | pure q8 =>
            cases q8
            exact k7 F8 _ H8 _ s8 (List.prefix_refl _) R8 (.pure (.bl c))
      · cases e7
  · rename_i hd
    cases e
    refine hv R (r1.mono s2 p2) r2 hd _ fun F' H' v s R' q => ?_
    cases q with
    | pure q =>
      cases q
      refine ⟨false, rfl, ?_⟩
      rw [if_neg (by decide)]
      exact k F' _ H' _ s (List.prefix_refl _) R' (.pure (.bl false))
  · cases e
theorem me_chain {op op' : CmpOp} {f f' : D → D → Z → Option D} {a b c : Expr} {pos : Pos} {ma mb mc : M D} (ho : OpM X (compareOp op) f) (ho' : OpM X (compareOp op') f') (ha : PE X a (Te (kx X Tb) ma)) (hb : PE X b (Te (kx X Tb) mb)) (hc : PE X c (Te (kx X Tb) mc))
    (hm : lastMarks [op, op'] [b, c] = false := by with_unfolding_all rfl) : PE X (.Compare a [op, op'] [b, c] pos) (Te (kx X Tb) (E.chain f f' ma mb mc)) := by
  obtain ⟨r, h1, h2⟩ := ho.rl
  obtain ⟨r', h1', h2'⟩ := ho'.rl
  exact pe_imp (pe_chain h1 h1' ha hb hc hm) (chain_go (h2 _) (h2' _))
theorem mt_chain {op op' : CmpOp} {f f' : D → D → Z → Option D} {a b c : Expr} {pos : Pos} {ma mb mc : M D} (ho : OpM X (compareOp op) f) (ho' : OpM X (compareOp op') f') (ha : PE X a (Te (kx X Tb) ma)) (hb : PE X b (Te (kx X Tb) mb)) (hc : PE X c (Te (kx X Tb) mc))
    (hm : lastMarks [op, op'] [b, c] = false := by with_unfolding_all rfl) : PT X (.Compare a [op, op'] [b, c] pos) (Tt (kx X Tb) (T.val (E.chain f f' ma mb mc))) := by
  obtain ⟨r, h1, h2⟩ := ho.rl
  obtain ⟨r', h1', h2'⟩ := ho'.rl
  exact pt_imp (pt_chain h1 h1' ha hb hc hm) (tv_go (chain_go (h2 _) (h2' _)))

/-! ### the operations' rules -/
theorem two_ints {K : Kx} {F : Hp} {rho : List Addr} {om : Nat → Option Addr} {z : Z} {x y : D} {xv yv : V} {d : D} {g : Int → Int → Option D} {f : D → D → Z → Option D}
    (hf : ∀ x y z, f x y z = match x, y with | .int i, .int j => g i j | _, _ => none) (rx : Rv K F rho om x xv) (ry : Rv K F rho om y yv) (e : f x y z = some d) : ∃ i j, x = .int i ∧ y = .int j ∧ xv = .int i ∧ yv = .int j ∧ g i j = some d := by
  rw [hf] at e
  cases x <;> try (cases e; done)
  cases y <;> try (cases e; done)
  cases rx with
  | pure rx =>
    cases rx
    cases ry with
    | pure ry =>
      cases ry
      exact ⟨_, _, rfl, rfl, rfl, rfl, e⟩
theorem opI0_ok {f : D → D → Z → Option D} {g : Int → Int → V} {g' : Int → Int → D} (hg : ∀ K F rho i j, Rp K F rho (g' i j) (g i j)) (hf : ∀ x y z, f x y z = match x, y with | .int i, .int j => some (g' i j) | _, _ => none) {K : Kx} : OpV K (rI0 g) f := by
  intro B F rho om z σ H x y xv yv d R rx ry e Q k
  obtain ⟨i, j, rfl, rfl, rfl, rfl, e⟩ := two_ints (g := fun i j => some (g' i j)) hf rx ry e
  cases e
  exact ⟨i, j, rfl, rfl, k F H _ (Same.refl F) R (.pure (hg _ _ _ _ _))⟩
theorem opI_ok {f : D → D → Z → Option D} {C : Int → Int → Prop} {g : Int → Int → Int} {h : Int → Int → Option D} (hh : ∀ i j d, h i j = some d → C i j ∧ d = .int (g i j)) (hf : ∀ x y z, f x y z = match x, y with | .int i, .int j => h i j | _, _ => none) {K : Kx} : OpV K (rI C fun i j => .int (g i j)) f := by
  intro B F rho om z σ H x y xv yv d R rx ry e Q k
  obtain ⟨i, j, rfl, rfl, rfl, rfl, e⟩ := two_ints (g := h) hf rx ry e
  obtain ⟨c, rfl⟩ := hh i j d e
  exact ⟨i, j, rfl, rfl, c, k F H _ (Same.refl F) R (.pure (.int _))⟩
theorem o_add : OpM X (binaryOp .Add) O.add := ⟨_, op_add, fun _ => opI0_ok (g' := fun i j => .int (i + j)) (fun _ _ _ _ _ => .int _) fun x y z => by cases x <;> cases y <;> rfl⟩
theorem o_sub : OpM X (binaryOp .Sub) O.sub := ⟨_, op_sub, fun _ => opI0_ok (g' := fun i j => .int (i - j)) (fun _ _ _ _ _ => .int _) fun x y z => by cases x <;> cases y <;> rfl⟩
theorem o_lt : OpM X (compareOp .Lt) O.lt := ⟨_, op_lt, fun _ => opI0_ok (g' := fun i j => .bl (decide (i < j))) (fun _ _ _ _ _ => .bl _) fun x y z => by cases x <;> cases y <;> rfl⟩
theorem o_le : OpM X (compareOp .LtE) O.le := ⟨_, op_le, fun _ => opI0_ok (g' := fun i j => .bl (decide (i ≤ j))) (fun _ _ _ _ _ => .bl _) fun x y z => by cases x <;> cases y <;> rfl⟩
theorem o_gt : OpM X (compareOp .Gt) O.gt := ⟨_, op_gt, fun _ => opI0_ok (g' := fun i j => .bl (decide (j < i))) (fun _ _ _ _ _ => .bl _) fun x y z => by cases x <;> cases y <;> rfl⟩
theorem o_ge : OpM X (compareOp .GtE) O.ge := ⟨_, op_ge, fun _ => opI0_ok (g' := fun i j => .bl (decide (j ≤ i))) (fun _ _ _ _ _ => .bl _) fun x y z => by cases x <;> cases y <;> rfl⟩
theorem bigN_pos : 0 < bigN := by decide
open Classical in
theorem o_mul : OpM X (binaryOp .Mult) O.mul := by
  refine ⟨_, op_mulW, fun _ => opI_ok (h := fun i j => if smI i ∧ smI j then some (.int (i * j)) else none) (fun i j d e => ?_) fun x y z => by cases x <;> cases y <;> rfl⟩
  split at e
  · rename_i c
    cases e
    exact ⟨wide_mul c.1 c.2 bigN_pos bigN_pos (by decide), rfl⟩
  · cases e
open Classical in
theorem o_div : OpM X (binaryOp .FloorDiv) O.div := by
  refine ⟨_, op_fdivW, fun _ => opI_ok (h := fun i j => if 0 < j ∧ smI j then some (.int (i / j)) else none) (fun i j d e => ?_) fun x y z => by cases x <;> cases y <;> rfl⟩
  split at e
  · rename_i c
    cases e
    exact ⟨wide_div c.1 c.2 bigN_pos (by decide), rfl⟩
  · cases e
theorem o_mod : OpM X (binaryOp .Mod) O.mod := by
  refine ⟨_, op_mod, fun _ => opI_ok (h := fun i j => if 0 < j then some (.int (i % j)) else none) (fun i j d e => ?_) fun x y z => by cases x <;> cases y <;> rfl⟩
  split at e
  · rename_i c
    cases e
    exact ⟨c, rfl⟩
  · cases e
theorem me_neg {a : Expr} {pos : Pos} {ma : M D} (ha : PE X a (Te (kx X Tb) ma)) : PE X (.UnaryOp .USub a pos) (Te (kx X Tb) (E.un O.neg ma)) := by
  refine pe_imp (pe_un un_neg ha) (un_go ?_)
  intro B F rho om z σ H x xv d R rx e Q k
  unfold O.neg at e
  split at e
  · cases e
    cases rx with
    | pure rx =>
      cases rx
      exact ⟨_, rfl, k F H _ (Same.refl F) R (.pure (.int _))⟩
  · cases e

/-! ### displays -/
theorem args_len : ∀ {as : List (M D)} {z z' : Z} {xs : List D}, E.args as z = some (xs, z') → xs.length = as.length
  | [], z, z', xs, h => by
    cases h
    rfl
  | a :: as, z, z', xs, h => by
    obtain ⟨x, z1, _, h2⟩ := bnd_some h
    obtain ⟨ys, z2, h3, h4⟩ := bnd_some h2
    split at h4
    · cases h4
      rw [List.length_cons, List.length_cons, args_len h3]
    · cases h4
theorem me_tup {es : List Expr} {k : Nat} {pos : Pos} {ms : List (M D)} (h : PA X es (Ta (kx X Tb) (E.args ms))) (hl : ms.length ≤ 1000 := by decide) : PE X (.Tuple es k pos) (Te (kx X Tb) (E.tup ms)) := by
  refine pe_imp (pe_tup h) fun σ H Q ⟨B, F, rho, om, z, g⟩ => ?_
  refine (g.bnd.imp fun _ _ H1 _ _ vs em _ _ _ _ ⟨F2, rho2, z2, xs, eg1, s1, p1, r1, g1⟩ => ?_).tx (R := rA (kx X Tb))
  obtain ⟨R, d, z4, e, k⟩ := g1
  cases e
  refine ⟨?_, fun p hp => ?_⟩
  · have hv := r1.length
    have hx := args_len eg1
    exact Nat.le_trans (by omega) (show 1000 ≤ sizeLine by decide)
  · obtain ⟨F3, R3, s3, q3⟩ := R.alloc (o := .tup vs) hp
    exact k F3 rho2 _ _ s3 (List.prefix_refl _) R3 (.pure (.tup q3 (r1.mono s3 (List.prefix_refl _))))
end
end Mi

set_option Elab.async false
set_option linter.all false
set_option maxRecDepth 100000
/-! Mi, part D3: lists, calls, tests. -/
namespace Mi
open PySem PySem.Spec PyProof.Rows L2
section
variable {X : Cx} {Tb : List (Addr × Str)}
/-! ### new lists -/
theorem mf_disp {es : List Expr} {pos : Pos} {ms : List (M D)} (h : PA X es (Ta (kx X Tb) (E.args ms))) (hl : ms.length ≤ 1000 := by decide) : PE X (.List es pos) (Tf (kx X Tb) (N.disp ms)) := by
  refine pe_imp (pe_lst h) fun σ H Q ⟨B, F, rho, om, z, R, xs, z', e, k⟩ => ?_
  refine ⟨B, F, rho, om, z, R, xs, z', e, fun F1 rho1 H1 vs s1 p1 R1 r1 => ⟨?_, fun p hp => ?_⟩⟩
  · have hv := r1.length
    have hx := args_len e
    exact Nat.le_trans (by omega) (show 1000 ≤ sizeLine by decide)
  · obtain ⟨R2, f2⟩ := R1.new (o := .lst vs) hp
    exact k F1 rho1 _ _ s1 p1 R2 ⟨p, vs, rfl, upd_same, f2, r1⟩
/-- a new list laid down -/
theorem me_frz {e : Expr} {m : M (List D)} (h : PE X e (Tf (kx X Tb) m)) : PE X e (Te (kx X Tb) (E.frz m)) := by
  refine pe_imp h fun σ H Q ⟨B, F, rho, om, z, g⟩ => ?_
  refine (g.bnd.imp fun _ _ H1 _ _ v _ _ _ _ _ ⟨F2, rho2, z2, xs, eg1, s1, p1, ⟨p, vs, hv, hp, f, r1⟩, g1⟩ => ?_).tx (R := rF (kx X Tb))
  subst hv
  obtain ⟨R, d, z4, e, k⟩ := g1
  cases e
  obtain ⟨R3, s3⟩ := R.lay f hp
  exact k _ rho2 _ _ s3 (List.prefix_refl _) R3 (.pure (.lst upd_same (r1.mono s3 (List.prefix_refl _))))
/-- a new list joins the shared heap -/
theorem me_shr {e : Expr} {m : M (List D)} (h : PE X e (Tf (kx X Tb) m)) : PE X e (Te (kx X Tb) (E.shr m)) := by
  refine pe_imp h fun σ H Q ⟨B, F, rho, om, z, g⟩ => ?_
  refine (g.bnd.imp fun _ _ H1 _ _ v _ _ _ _ _ ⟨F2, rho2, z2, xs, eg1, s1, p1, ⟨p, vs, hv, hp, f, r1⟩, g1⟩ => ?_).tx (R := rF (kx X Tb))
  subst hv
  obtain ⟨R, d, z4, e, k⟩ := g1
  cases e
  obtain ⟨R3, q3⟩ := R.share (d := .lst xs) f ⟨vs, hp, r1⟩
  exact k _ _ _ _ (Same.refl _) (List.prefix_append _ _) R3 (.pure (.ref q3))

/-! ### items -/
theorem Rps.atI {K : Kx} {F : Hp} {rho : List Addr} {ds : List D} {vs : List V} {i : Int} {d : D} (r : Rps K F rho ds vs) (h : L2.atI ds i = some d) : ∃ v, L2.atI vs i = some v ∧ Rp K F rho d v := by
  unfold L2.atI at h ⊢
  rw [← r.length]
  cases q : ixN ds.length i with
  | none =>
    rw [q] at h
    cases h
  | some j =>
    rw [q] at h
    exact r.get h
theorem ix_ok {K : Kx} : OpV K (fun x y H Q => rIxL K x y H Q ∨ rIxT K x y H Q) O.ix := by
  intro B F rho om z σ H x y xv yv d R rx ry e Q k
  unfold O.ix at e
  split at e
  · rename_i t ds i hc
    obtain ⟨a, xs, rfl, q, h⟩ := cont_ok R rx hc
    cases ry with
    | pure ry =>
      cases ry
      obtain ⟨v, hv, rv⟩ := q.atI e
      have fin := k F H v (Same.refl F) R (.pure rv)
      rcases h with ⟨_, h⟩ | ⟨_, h⟩
      · exact .inl ⟨a, xs, i, v, rfl, rfl, h, hv, fin⟩
      · exact .inr ⟨a, xs, i, v, rfl, rfl, h, hv, fin⟩
  · cases e
theorem me_ix {a b : Expr} {pos : Pos} {ma mb : M D} (ha : PE X a (Te (kx X Tb) ma)) (hb : PE X b (Te (kx X Tb) mb)) (hs : PlainIx b := by exact fun _ _ => rfl) : PE X (.Subscript a b pos) (Te (kx X Tb) (E.op O.ix ma mb)) :=
  pe_imp (pe_ix (ix_list.or ix_tup) ha hb hs) (op_go ix_ok)

/-! ### a def's call -/
theorem call_go {K : Kx} {n : Nat} {mf : Fn} {ms : List (M D)} {es : List Expr} {XE : XK} (hn : ms.length = n) : ∀ σ H Q, Te K (E.call mf ms) σ H Q → tCall (spM n K mf) [] XE (Ta K (E.args ms)) σ H Q := by
  rintro σ H Q ⟨B, F, rho, om, z, g⟩
  refine (g.bnd.imp fun _ _ H1 _ _ vs _ _ _ _ _ ⟨F2, rho2, z2, xs, eg1, s1, p1, r1, g1⟩ => ?_).tx (R := rA K)
  obtain ⟨R, d, z4, e, k⟩ := g1
  dsimp only at e
  split at e
  · cases e
  · rename_i d' h' hd
    cases e
    rw [List.append_nil]
    have hx := args_len eg1
    refine ⟨by rw [← r1.length, hx, hn], F2, rho2, z2.h, xs, R.rh, r1, _, _, hd, fun F' rho' H' v e1 e2 r fr nf nr q => ?_⟩
    exact k F' rho' H' v e1 e2 (R.called e1 e2 r fr nf nr) (.pure q)
theorem me_call {k : Nat} {f : Addr} {fd : FuncData} {ps : List Str} {n : Nat} {mf : Fn} {x : Str} {p pos : Pos} {e : Expr} {es : List Expr} {ms : List (M D)} (G : FnOk X.prog X.w X.K X.mg X.base CX0 k f fd ps (spM n (kx X Tb) mf)) (hr : Room k X.A) (hg : Gl X x) (hm : X.mg x = some (.ref f))
    (hk : PySem.W.keepIn X.K (.ref f) = true) (hb : Binds X.K fd ps []) (ha : PA X (e :: es) (Ta (kx X Tb) (E.args ms))) (hn : ms.length = n := by rfl) (hdb : (x == ("__debug__" : Str)) = false := by decide) (he : starEach (e :: es) X.env = (false, eval e X.env) :: starEach es X.env := by rfl)
    (hpl : (backTo pos (starEach es X.env)).any (·.1) = false := by rfl) : PE X (.Call (.Name x p) (e :: es) [] pos) (Te (kx X Tb) (E.call mf ms)) :=
  pe_imp (pe_call G hr hg hm hk hb .nil pass0 ha hdb he hpl) (call_go (es := es) hn)

/-! ### built-ins by values -/
inductive Rvs (K : Kx) (F : Hp) (rho : List Addr) (om : Nat → Option Addr) : List D → List V → Prop
  | nil : Rvs K F rho om [] []
  | cons {d : D} {v : V} {ds : List D} {vs : List V} : Rv K F rho om d v → Rvs K F rho om ds vs → Rvs K F rho om (d :: ds) (v :: vs)
theorem Rps.rvs {K : Kx} {F : Hp} {rho : List Addr} {om : Nat → Option Addr} : ∀ {ds : List D} {vs : List V}, Rps K F rho ds vs → Rvs K F rho om ds vs
  | _, _, .nil => .nil
  | _, _, .cons h r => .cons (.pure h) (Rps.rvs r)
def CallV (K : Kx) (r : List V → Hp → VK → Prop) (f : List D → Z → Option D) : Prop :=
  ∀ {B : Bs} {F : Hp} {rho : List Addr} {om : Nat → Option Addr} {z : Z} {σ : L2.St} {H : Hp} {xs : List D} {vs : List V} {d : D}, Rl K B F rho om z σ H → Rvs K F rho om xs vs → f xs z = some d →
    ∀ Q : VK, (∀ F' H' v, Same F F' → Rl K B F' rho om z σ H' → Rv K F' rho om d v → Q v H') → r vs H Q
theorem blt1_go {K : Kx} {r : List V → Hp → VK → Prop} {f : List D → Z → Option D} (hv : CallV K r f) {m : M D} : ∀ σ H Q, Te K (E.blt f [m]) σ H Q → tCB r (tCons (Te K m) tNil) σ H Q := by
  rintro σ H Q ⟨B, F, rho, om, z, g⟩
  have g : Go K (rV K) B F rho om (bnd m fun x => fun z => match f [x] z with | none => none | some d => some (d, z)) z σ H Q := g
  refine (g.bnd.imp fun _ _ H1 _ _ v _ _ _ _ _ ⟨F2, rho2, z2, x, eg1, s1, p1, r1, g1⟩ => ?_).tx (R := rV K)
  obtain ⟨R, d, z4, e, k⟩ := g1
  dsimp only at e
  split at e
  · cases e
  · rename_i d' hd
    cases e
    exact hv R (.cons r1 .nil) hd Q fun F' H' v s R' q => k F' rho2 H' v s (List.prefix_refl _) R' q
theorem blt2_go {K : Kx} {r : List V → Hp → VK → Prop} {f : List D → Z → Option D} (hv : CallV K r f) {m m2 : M D} {ms : List (M D)} : ∀ σ H Q, Te K (E.blt f (m :: m2 :: ms)) σ H Q → tCB r (Ta K (E.args (m :: m2 :: ms))) σ H Q := by
  rintro σ H Q ⟨B, F, rho, om, z, g⟩
  have g : Go K (rV K) B F rho om (bnd (E.args (m :: m2 :: ms)) fun xs => fun z => match f xs z with | none => none | some d => some (d, z)) z σ H Q := g
  refine (g.bnd.imp fun _ _ H1 _ _ v _ _ _ _ _ ⟨F2, rho2, z2, x, eg1, s1, p1, r1, g1⟩ => ?_).tx (R := rA K)
  obtain ⟨R, d, z4, e, k⟩ := g1
  dsimp only at e
  split at e
  · cases e
  · rename_i d' hd
    cases e
    exact hv R r1.rvs hd Q fun F' H' v s R' q => k F' rho2 H' v s (List.prefix_refl _) R' q
structure CallM (X : Cx) (g : Value) (f : List D → Z → Option D) : Prop where
  rl : ∃ r, CallR X g r ∧ ∀ Tb, CallV (kx X Tb) r f
theorem me_blt1 {id : String} {f : List D → Z → Option D} {x : Str} {p pos : Pos} {e : Expr} {m : M D} (hc : CallM X (.builtin id) f) (hg : Gl X x) (hm : X.mg x = none) (hv : bootBuiltins x = some (.builtin id)) (ha : PE X e (Te (kx X Tb) m)) (hn : x ≠ "__name__" := by decide) (hdb : (x == ("__debug__" : Str)) = false := by decide)
    (he : starEach [e] X.env = (false, eval e X.env) :: starEach [] X.env := by rfl) (hpl : (backTo pos (starEach [] X.env)).any (·.1) = false := by rfl) : PE X (.Call (.Name x p) [e] [] pos) (Te (kx X Tb) (E.blt f [m])) := by
  obtain ⟨r, h1, h2⟩ := hc.rl
  exact pe_imp (pe_callB h1 hg hm hv (pa_cons ha pa_nil he) hn hdb he hpl) (blt1_go (h2 _))
theorem me_blt2 {id : String} {f : List D → Z → Option D} {x : Str} {p pos : Pos} {e e2 : Expr} {es : List Expr} {m m2 : M D} {ms : List (M D)} (hc : CallM X (.builtin id) f) (hg : Gl X x) (hm : X.mg x = none) (hv : bootBuiltins x = some (.builtin id)) (ha : PA X (e :: e2 :: es) (Ta (kx X Tb) (E.args (m :: m2 :: ms)))) (hn : x ≠ "__name__" := by decide) (hdb : (x == ("__debug__" : Str)) = false := by decide)
    (he : starEach (e :: e2 :: es) X.env = (false, eval e X.env) :: starEach (e2 :: es) X.env := by rfl) (hpl : (backTo pos (starEach (e2 :: es) X.env)).any (·.1) = false := by rfl) : PE X (.Call (.Name x p) (e :: e2 :: es) [] pos) (Te (kx X Tb) (E.blt f (m :: m2 :: ms))) := by
  obtain ⟨r, h1, h2⟩ := hc.rl
  exact pe_imp (pe_callB h1 hg hm hv ha hn hdb he hpl) (blt2_go (h2 _))
theorem me_ty1 {T : String} {f : List D → Z → Option D} {x : Str} {p pos : Pos} {e : Expr} {m : M D} (hc : CallM X (.type T) f) (hg : Gl X x) (hm : X.mg x = none) (hv : bootBuiltins x = some (.type T)) (ha : PE X e (Te (kx X Tb) m)) (hn : x ≠ "__name__" := by decide) (hdb : (x == ("__debug__" : Str)) = false := by decide)
    (he : starEach [e] X.env = (false, eval e X.env) :: starEach [] X.env := by rfl) (hpl : (backTo pos (starEach [] X.env)).any (·.1) = false := by rfl) : PE X (.Call (.Name x p) [e] [] pos) (Te (kx X Tb) (E.blt f [m])) := by
  obtain ⟨r, h1, h2⟩ := hc.rl
  exact pe_imp (pe_callTy h1 hg hm hv (pa_cons ha pa_nil he) hn hdb he hpl) (blt1_go (h2 _))
theorem rvs1 {K : Kx} {F : Hp} {rho : List Addr} {om : Nat → Option Addr} {x : D} {vs : List V} (r : Rvs K F rho om [x] vs) : ∃ v, vs = [v] ∧ Rv K F rho om x v := by
  cases r with
  | cons r t =>
    cases t
    exact ⟨_, rfl, r⟩
theorem rvs2 {K : Kx} {F : Hp} {rho : List Addr} {om : Nat → Option Addr} {x y : D} {vs : List V} (r : Rvs K F rho om [x, y] vs) : ∃ v w, vs = [v, w] ∧ Rv K F rho om x v ∧ Rv K F rho om y w := by
  cases r with
  | cons r t =>
    cases t with
    | cons r2 t =>
      cases t
      exact ⟨_, _, rfl, r, r2⟩
theorem rv_int {K : Kx} {F : Hp} {rho : List Addr} {om : Nat → Option Addr} {i : Int} {v : V} (r : Rv K F rho om (.int i) v) : v = .int i := by
  cases r with
  | pure r =>
    cases r
    rfl
theorem f_len : CallM X (.builtin "len") F.len := by
  refine ⟨_, call_len_seq, ?_⟩
  intro Tb B F rho om z σ H xs vs d R r e Q k
  unfold Mi.F.len at e
  split at e
  · obtain ⟨v, rfl, rv⟩ := rvs1 r
    split at e
    · rename_i t ds hc
      cases e
      obtain ⟨a, ys, rfl, q, h⟩ := cont_ok R rv hc
      refine ⟨a, ys, rfl, ?_, ?_⟩
      · rcases h with ⟨_, h⟩ | ⟨_, h⟩
        · exact .inl h
        · exact .inr h
      · rw [← q.length]
        exact k F H _ (Same.refl F) R (.pure (.int _))
    · cases e
  · cases e
theorem f_abs : CallM X (.builtin "abs") F.abs := by
  refine ⟨_, call_abs, ?_⟩
  intro Tb B F rho om z σ H xs vs d R r e Q k
  unfold Mi.F.abs at e
  split at e
  · cases e
    obtain ⟨v, rfl, rv⟩ := rvs1 r
    obtain rfl := rv_int rv
    exact ⟨_, rfl, k F H _ (Same.refl F) R (.pure (.int _))⟩
  · cases e
theorem f_max2 (hc : X.calm = true) : CallM X (.builtin "max") F.max2 := by
  refine ⟨_, call_max2 hc, ?_⟩
  intro Tb B F rho om z σ H xs vs d R r e Q k
  unfold Mi.F.max2 at e
  split at e
  · cases e
    obtain ⟨v, w, rfl, rv, rw'⟩ := rvs2 r
    obtain rfl := rv_int rv
    obtain rfl := rv_int rw'
    exact ⟨_, _, rfl, k F H _ (Same.refl F) R (.pure (.int _))⟩
  · cases e
theorem f_min2 (hc : X.calm = true) : CallM X (.builtin "min") F.min2 := by
  refine ⟨_, call_min2 hc, ?_⟩
  intro Tb B F rho om z σ H xs vs d R r e Q k
  unfold Mi.F.min2 at e
  split at e
  · cases e
    obtain ⟨v, w, rfl, rv, rw'⟩ := rvs2 r
    obtain rfl := rv_int rv
    obtain rfl := rv_int rw'
    exact ⟨_, _, rfl, k F H _ (Same.refl F) R (.pure (.int _))⟩
  · cases e
theorem f_int1 : CallM X (.type "int") F.int1 := by
  refine ⟨_, call_int1, ?_⟩
  intro Tb B F rho om z σ H xs vs d R r e Q k
  unfold Mi.F.int1 at e
  split at e
  · cases e
    obtain ⟨v, rfl, rv⟩ := rvs1 r
    obtain rfl := rv_int rv
    exact .inl ⟨_, rfl, k F H _ (Same.refl F) R (.pure (.int _))⟩
  · cases e
theorem cont_tup {d : D} {z : Z} {ds : List D} (h : cont d z = some (true, ds)) : d = .tup ds ∨ d = .kt ds := by
  unfold cont at h
  split at h
  · cases h
  · cases h
    exact .inl rfl
  · cases h
    exact .inr rfl
  · cases h
  · split at h <;> cases h
  · split at h <;> cases h
  · cases h
theorem f_tuple : CallM X (.type "tuple") F.tuple := by
  refine ⟨_, call_tuple_of, ?_⟩
  intro Tb B F rho om z σ H xs vs d R r e Q k
  unfold Mi.F.tuple at e
  split at e
  · cases e
  · rename_i hk
    obtain ⟨v, rfl, rv⟩ := rvs1 r
    split at e
    · rename_i t ds hc
      cases e
      obtain ⟨a, ys, rfl, q, h⟩ := cont_ok R rv hc
      refine ⟨a, ys, rfl, ?_⟩
      rcases h with ⟨_, h⟩ | ⟨ht, h⟩
      · refine .inl ⟨h, fun l hl => ?_⟩
        obtain ⟨F3, R3, s3, q3⟩ := R.alloc (o := .tup ys) hl
        exact k F3 _ _ s3 R3 (.pure (.tup q3 (q.mono s3 (List.prefix_refl _))))
      · subst ht
        refine .inr ⟨h, k F H _ (Same.refl F) R ?_⟩
        rcases cont_tup hc with rfl | rfl
        · exact rv
        · exact absurd rfl (hk _)
    · cases e
  · cases e
end
end Mi

set_option Elab.async false
set_option linter.all false
set_option maxRecDepth 100000
/-! Mi, part D4: tests, truth, == of data, in; sums; isinstance. -/
namespace Mi
open PySem PySem.Spec PyProof.Rows L2
section
variable {X : Cx} {Tb : List (Addr × Str)}
/-! ### and, or, not, if .. else -/
theorem mw_and1 {a : Expr} {m : M Bool} {pos : Pos} (ha : PT X a (Tt (kx X Tb) m)) : PW X (.BoolOp .And [a] pos) (Tt (kx X Tb) m) := pw_and1 ha
theorem mw_or1 {a : Expr} {m : M Bool} {pos : Pos} (ha : PT X a (Tt (kx X Tb) m)) : PW X (.BoolOp .Or [a] pos) (Tt (kx X Tb) m) := pw_or1 ha
theorem mw_and {a b : Expr} {rest : List Expr} {m n : M Bool} {pos : Pos} (ha : PT X a (Tt (kx X Tb) m)) (hb : PW X (.BoolOp .And (b :: rest) pos) (Tt (kx X Tb) n)) : PW X (.BoolOp .And (a :: b :: rest) pos) (Tt (kx X Tb) (T.and m n)) := by
  refine pw_imp (pw_and ha hb) fun σ H Q ⟨B, F, rho, om, z, g⟩ => ?_
  refine (g.bnd.imp fun _ _ H1 _ _ c _ _ _ _ _ ⟨F2, rho2, z2, x, eg1, s1, p1, r1, g1⟩ => ?_).tx (R := rB)
  have r1 : c = x := r1
  subst r1
  cases c with
  | true => exact g1.tx
  | false => exact g1.ret false rfl
theorem mw_or {a b : Expr} {rest : List Expr} {m n : M Bool} {pos : Pos} (ha : PT X a (Tt (kx X Tb) m)) (hb : PW X (.BoolOp .Or (b :: rest) pos) (Tt (kx X Tb) n)) : PW X (.BoolOp .Or (a :: b :: rest) pos) (Tt (kx X Tb) (T.or m n)) := by
  refine pw_imp (pw_or ha hb) fun σ H Q ⟨B, F, rho, om, z, g⟩ => ?_
  refine (g.bnd.imp fun _ _ H1 _ _ c _ _ _ _ _ ⟨F2, rho2, z2, x, eg1, s1, p1, r1, g1⟩ => ?_).tx (R := rB)
  have r1 : c = x := r1
  subst r1
  cases c with
  | true => exact g1.ret true rfl
  | false => exact g1.tx
theorem mt_not {a : Expr} {m : M Bool} {pos : Pos} (ha : PT X a (Tt (kx X Tb) m)) : PT X (.UnaryOp .Not a pos) (Tt (kx X Tb) (T.not m)) := by
  refine pt_imp (pt_not ha) fun σ H Q ⟨B, F, rho, om, z, g⟩ => ?_
  refine (g.bnd.imp fun _ _ H1 _ _ c _ _ _ _ _ ⟨F2, rho2, z2, x, eg1, s1, p1, r1, g1⟩ => ?_).tx (R := rB)
  have r1 : c = x := r1
  subst r1
  exact g1.ret _ rfl
theorem me_ite {c a b : Expr} {t : M Bool} {m n : M D} {pos : Pos} (hc : PT X c (Tt (kx X Tb) t)) (ha : PE X a (Te (kx X Tb) m)) (hb : PE X b (Te (kx X Tb) n)) : PE X (.IfExp c a b pos) (Te (kx X Tb) (E.ite t m n)) := by
  refine pe_imp (pe_ifExp hc ha hb) fun σ H Q ⟨B, F, rho, om, z, g⟩ => ?_
  refine (g.bnd.imp fun _ _ H1 _ _ c _ _ _ _ _ ⟨F2, rho2, z2, x, eg1, s1, p1, r1, g1⟩ => ?_).tx (R := rB)
  have r1 : c = x := r1
  subst r1
  cases c with
  | true => exact g1.tx
  | false => exact g1.tx
/-- .. as values -/
theorem me_one {a : Expr} {op} {m : M D} {pos : Pos} (ha : PE X a (Te (kx X Tb) m)) : PE X (.BoolOp op [a] pos) (Te (kx X Tb) m) := pe_one ha
theorem me_and {a b : Expr} {rest : List Expr} {m n : M D} {pos : Pos} (ha : PE X a (Te (kx X Tb) m)) (hb : PE X (.BoolOp .And (b :: rest) pos) (Te (kx X Tb) n)) : PE X (.BoolOp .And (a :: b :: rest) pos) (Te (kx X Tb) (E.and m n)) := by
  refine pe_imp (pe_and ha hb) fun σ H Q ⟨B, F, rho, om, z, g⟩ => ?_
  refine (g.bnd.imp fun _ _ H1 _ _ c _ _ _ _ _ ⟨F2, rho2, z2, x, eg1, s1, p1, r1, g1⟩ => ?_).tx (R := rV (kx X Tb))
  cases r1 with
  | own _ => obtain ⟨_, _, _, e, _⟩ := g1; cases e
  | pure r1 =>
    cases r1 with
    | bl b =>
      refine ⟨b, rfl, ?_⟩
      cases b with
      | true => exact g1.tx
      | false => exact g1.ret _ (.pure (.bl false))
    | _ => obtain ⟨_, _, _, e, _⟩ := g1; cases e
theorem me_or {a b : Expr} {rest : List Expr} {m n : M D} {pos : Pos} (ha : PE X a (Te (kx X Tb) m)) (hb : PE X (.BoolOp .Or (b :: rest) pos) (Te (kx X Tb) n)) : PE X (.BoolOp .Or (a :: b :: rest) pos) (Te (kx X Tb) (E.or m n)) := by
  refine pe_imp (pe_or ha hb) fun σ H Q ⟨B, F, rho, om, z, g⟩ => ?_
  refine (g.bnd.imp fun _ _ H1 _ _ c _ _ _ _ _ ⟨F2, rho2, z2, x, eg1, s1, p1, r1, g1⟩ => ?_).tx (R := rV (kx X Tb))
  cases r1 with
  | own _ => obtain ⟨_, _, _, e, _⟩ := g1; cases e
  | pure r1 =>
    cases r1 with
    | bl b =>
      refine ⟨b, rfl, ?_⟩
      cases b with
      | true => exact g1.ret _ (.pure (.bl true))
      | false => exact g1.tx
    | _ => obtain ⟨_, _, _, e, _⟩ := g1; cases e
theorem me_not {a : Expr} {m : M D} {pos : Pos} (ha : PE X a (Te (kx X Tb) m)) : PE X (.UnaryOp .Not a pos) (Te (kx X Tb) (E.not m)) := by
  refine pe_imp (pe_not ha) fun σ H Q ⟨B, F, rho, om, z, g⟩ => ?_
  refine (g.bnd.imp fun _ _ H1 _ _ c _ _ _ _ _ ⟨F2, rho2, z2, x, eg1, s1, p1, r1, g1⟩ => ?_).tx (R := rV (kx X Tb))
  cases r1 with
  | own _ => obtain ⟨_, _, _, e, _⟩ := g1; cases e
  | pure r1 =>
    cases r1 with
    | bl b => exact ⟨b, rfl, g1.ret _ (.pure (.bl _))⟩
    | _ => obtain ⟨_, _, _, e, _⟩ := g1; cases e
/-- an expression by its truth -/
theorem Rps.isEmpty {K : Kx} {F : Hp} {rho : List Addr} {ds : List D} {vs : List V} (r : Rps K F rho ds vs) : (!ds.isEmpty) = !vs.isEmpty := by cases r <;> rfl
theorem mt_tru {a : Expr} {m : M D} (ha : PE X a (Te (kx X Tb) m)) (he : ∀ whole, isTrue a X.env whole = (do let v ← whole; standAt a.pos; holding [v] (truthy v)) := by intro _; rfl) : PT X a (Tt (kx X Tb) (T.tru m)) := by
  refine pt_imp (pt_truth ha he) fun σ H Q ⟨B, F, rho, om, z, g⟩ => ?_
  refine (g.bnd.imp fun _ _ H1 _ _ v _ _ _ _ _ ⟨F2, rho2, z2, x, eg1, s1, p1, r1, g1⟩ => ?_).tx (R := rV (kx X Tb))
  obtain ⟨R, k, z4, e, kk⟩ := g1
  dsimp only at e
  split at e
  · rename_i k' hk
    cases e
    refine ⟨k, ?_, kk F2 rho2 H1 k (Same.refl _) (List.prefix_refl _) R rfl⟩
    have byc : ∀ {d : D}, (match cont d z2 with | some (_, ds) => some (!ds.isEmpty) | none => none) = some k → Rv (kx X Tb) F2 rho2 om d v → TruV X.K v H1 k := fun {d} e r => by
      split at e
      · rename_i t ds hc
        cases e
        obtain ⟨a, xs, rfl, q, h⟩ := cont_ok R r hc
        rcases h with ⟨_, h⟩ | ⟨_, h⟩
        · exact .inl ⟨xs, h, q.isEmpty⟩
        · exact .inr (.inl ⟨xs, h, q.isEmpty⟩)
      · cases e
    unfold O.tru at hk
    split at hk
    · cases hk
      cases r1 with
      | pure r1 => cases r1; rfl
    · cases hk
      cases r1 with
      | pure r1 => cases r1; rfl
    · cases hk
      cases r1 with
      | pure r1 => cases r1; rfl
    · exact byc hk r1
  · cases e

/-! ### == -/
mutual
theorem toP_ok {K : Kx} {F H : Hp} {rho : List Addr} (e : Same F H) : ∀ {d : D} {v : V} {p : PyData}, O.toP d = some p → Rp K F rho d v → Dp K H v p
  | .non, _, _, h, .non => by cases h; exact .non
  | .bl b, _, _, h, .bl _ => by cases h; exact .bl b
  | .int i, _, _, h, .int _ => by cases h; exact .int i
  | .str x, _, _, h, .str _ => by cases h; exact .str x
  | .tup xs, _, _, h, .tup q r => by
    rw [O.toP] at h
    cases hp : O.toPs xs with
    | none => rw [hp] at h; cases h
    | some ps =>
      rw [hp] at h
      cases h
      exact .tup (SqT.of (e _ _ q)) (toPs_ok e hp r)
  | .kt xs, _, _, h, .kt q r => by
    rw [O.toP] at h
    cases hp : O.toPs xs with
    | none => rw [hp] at h; cases h
    | some ps =>
      rw [hp] at h
      cases h
      exact .tup (Same.sqt e q) (toPs_ok e hp r)
  | .lst xs, _, _, h, .lst q r => by
    rw [O.toP] at h
    cases hp : O.toPs xs with
    | none => rw [hp] at h; cases h
    | some ps =>
      rw [hp] at h
      cases h
      exact .lst (SqL.of (e _ _ q)) (toPs_ok e hp r)
  | .scr xs, _, _, h, .scr q r => by
    rw [O.toP] at h
    cases hp : O.toPs xs with
    | none => rw [hp] at h; cases h
    | some ps =>
      rw [hp] at h
      cases h
      exact .lst (e.seq q) (toPs_ok e hp r)
  | .ref n, _, _, h, .ref _ => by rw [O.toP] at h <;> first | cases h | (intros; contradiction)
  | .dk n, _, _, h, _ => by rw [O.toP] at h <;> first | cases h | (intros; contradiction)
  | .dt n, _, _, h, _ => by rw [O.toP] at h <;> first | cases h | (intros; contradiction)
  | .ins n fs, _, _, h, _ => by rw [O.toP] at h <;> first | cases h | (intros; contradiction)
theorem toPs_ok {K : Kx} {F H : Hp} {rho : List Addr} (e : Same F H) : ∀ {ds : List D} {vs : List V} {ps : List PyData}, O.toPs ds = some ps → Rps K F rho ds vs → DpAll K H vs ps
  | [], _, _, h, .nil => by cases h; exact .nil
  | d :: ds, _, _, h, .cons q r => by
    rw [O.toPs] at h
    split at h
    · rename_i a as h1 h2
      cases h
      exact .cons (toP_ok e h1 q) (toPs_ok e h2 r)
    · cases h
end
/-- a list that may change, as it stands -/
theorem snap_ok {K : Kx} {B : Bs} {F : Hp} {rho : List Addr} {om : Nat → Option Addr} {z : Z} {σ : L2.St} {H : Hp} {d : D} {v : V} {p : PyData} (R : Rl K B F rho om z σ H) (r : Rv K F rho om d v) (h : O.toP (O.snap d z) = some p) : Dp K H v p := by
  have byc : ∀ {d : D}, O.toP (match cont d z with | some (_, ds) => .lst ds | none => .own 0) = some p → (∀ b ds, cont d z = some (b, ds) → b = false) → Rv K F rho om d v → Dp K H v p := by
    intro d e hb r
    split at e
    · rename_i t ds hc
      obtain ⟨a, xs, rfl, q, h9⟩ := cont_ok R r hc
      have ht := hb _ _ hc
      rcases h9 with ⟨_, h8⟩ | ⟨h7, h8⟩
      · rw [O.toP] at e
        cases hp : O.toPs ds with
        | none => rw [hp] at e; cases e
        | some ps =>
          rw [hp] at e
          cases e
          exact .lst h8 (toPs_ok R.rh.fro hp q)
      · rw [ht] at h7
        cases h7
    · cases e
  cases d with
  | own i =>
    have hb : ∀ b ds, cont (.own i) z = some (b, ds) → b = false := by
      intro b ds hc
      have hc : (match z.s[i]? with | some (.own (.lst xs)) => some (false, xs) | _ => none) = some (b, ds) := hc
      split at hc
      · cases hc
        rfl
      · cases hc
    exact byc (d := .own i) h hb r
  | ref n =>
    have hb : ∀ b ds, cont (.ref n) z = some (b, ds) → b = false := by
      intro b ds hc
      have hc : (match z.h[n]? with | some (.lst xs) => some (false, xs) | _ => none) = some (b, ds) := hc
      split at hc
      · cases hc
        rfl
      · cases hc
    exact byc (d := .ref n) h hb r
  | _ =>
    cases r with
    | pure r => exact toP_ok R.rh.fro h r
theorem OpR.either {f : Value → Value → Sem Value} {r r' : R2} (h : OpR X f r) (h' : OpR X f r') : OpR X f fun x y H Q => r x y H Q ∨ r' x y H Q := by
  intro pins s σ H x y v u Q I rx ry e
  rcases e with e | e
  · exact h pins s σ H x y v u Q I rx ry e
  · exact h' pins s σ H x y v u Q I rx ry e
theorem eqP_ok {K : Kx} {B : Bs} {F : Hp} {rho : List Addr} {om : Nat → Option Addr} {z : Z} {σ : L2.St} {H : Hp} {x y : D} {v w : V} {k : Bool} (R : Rl K B F rho om z σ H) (rx : Rv K F rho om x v) (ry : Rv K F rho om y w) (h : O.eqP x y z = some k) :
    (∃ a b, v = .str a ∧ w = .str b ∧ k = decide (a = b)) ∨ ∃ d e, Dp K H v d ∧ Dp K H w e ∧ SeqAt.shaped d = true ∧ SeqAt.shaped e = true ∧ k = PyData.eqv d e := by
  unfold O.eqP at h
  split at h
  · rename_i a b
    cases h
    refine .inl ⟨a, b, ?_, ?_, rfl⟩
    · cases rx with | pure r => cases r; rfl
    · cases ry with | pure r => cases r; rfl
  · refine .inr ?_
    unfold O.eqD at h
    split at h
    · rename_i a b ha hb
      split at h
      · rename_i c
        cases h
        exact ⟨a, b, snap_ok R rx ha, snap_ok R ry hb, c.1, c.2, rfl⟩
      · cases h
    · cases h
theorem str_dec {a b : Str} : decide (V.str a = V.str b) = decide (a = b) := by
  by_cases h : a = b
  · subst h; simp
  · rw [decide_eq_false h, decide_eq_false (fun e => h (by cases e; rfl))]
theorem o_eq (hu : X.A.units + 64 < cLine) : OpM X (compareOp .Eq) O.eq := by
  refine ⟨_, OpR.either op_eq (op_eqD hu), ?_⟩
  intro Tb B F rho om z σ H x y xv yv d R rx ry e Q k
  unfold O.eq at e
  cases hk : O.eqP x y z with
  | none => rw [hk] at e; cases e
  | some b =>
    rw [hk] at e
    cases e
    rcases eqP_ok R rx ry hk with ⟨a, b, rfl, rfl, rfl⟩ | ⟨d, e, h1, h2, h3, h4, h5⟩
    · refine .inl ⟨rfl, ?_⟩
      rw [str_dec]
      exact k F H _ (Same.refl F) R (.pure (.bl _))
    · subst h5
      exact .inr ⟨d, e, h1, h2, h3, h4, k F H _ (Same.refl F) R (.pure (.bl _))⟩
theorem o_ne (hu : X.A.units + 64 < cLine) : OpM X (compareOp .NotEq) O.ne := by
  refine ⟨_, OpR.either op_ne (op_neD hu), ?_⟩
  intro Tb B F rho om z σ H x y xv yv d R rx ry e Q k
  unfold O.ne at e
  cases hk : O.eqP x y z with
  | none => rw [hk] at e; cases e
  | some b =>
    rw [hk] at e
    cases e
    rcases eqP_ok R rx ry hk with ⟨a, b, rfl, rfl, rfl⟩ | ⟨d, e, h1, h2, h3, h4, h5⟩
    · refine .inl ⟨rfl, ?_⟩
      rw [str_dec]
      exact k F H _ (Same.refl F) R (.pure (.bl _))
    · subst h5
      exact .inr ⟨d, e, h1, h2, h3, h4, k F H _ (Same.refl F) R (.pure (.bl _))⟩
end
end Mi

set_option Elab.async false
set_option linter.all false
set_option maxRecDepth 100000
/-! Mi, part D5: in; sums; isinstance; changes of a list; new lists. -/
namespace Mi
open PySem PySem.Spec PyProof.Rows L2
section
variable {X : Cx} {Tb : List (Addr × Str)}
/-! ### in -/
theorem flat_rp {K : Kx} {F : Hp} {rho : List Addr} {d : D} {v : V} (r : Rp K F rho d v) (h : O.flat d = true) : flatV v = true := by
  cases r <;> first | rfl | cases h
theorem eqF_rp {K : Kx} {F : Hp} {rho : List Addr} {d e : D} {v w : V} (r : Rp K F rho d v) (q : Rp K F rho e w) (h : O.flat d = true) (h2 : O.flat e = true) : eqV v w = O.eqF d e := by
  cases r <;> try (cases h; done)
  all_goals cases q <;> first | rfl | (cases h2; done)
theorem all_flat {K : Kx} {F : Hp} {rho : List Addr} : ∀ {ds : List D} {vs : List V}, Rps K F rho ds vs → ds.all O.flat = true → vs.all flatV = true
  | _, _, .nil, _ => rfl
  | _, _, .cons r q, h => by
    rw [List.all_cons, Bool.and_eq_true] at h
    rw [List.all_cons, flat_rp r h.1, all_flat q h.2]
    rfl
theorem any_eq {K : Kx} {F : Hp} {rho : List Addr} {x : D} {xv : V} (rx : Rp K F rho x xv) (hx : O.flat x = true) : ∀ {ds : List D} {vs : List V}, Rps K F rho ds vs → ds.all O.flat = true → inV xv vs = ds.any fun y => O.eqF y x
  | _, _, .nil, _ => rfl
  | _, _, .cons r q, h => by
    rw [List.all_cons, Bool.and_eq_true] at h
    have ih := any_eq rx hx q h.2
    unfold inV at ih ⊢
    rw [List.any_cons, List.any_cons, ih, eqF_rp r rx h.1 hx]
theorem o_in : OpM X (compareOp .In) O.isIn := by
  refine ⟨_, op_in_seq, ?_⟩
  intro Tb B F rho om z σ H x y xv yv d R rx ry e Q k
  unfold O.isIn at e
  split at e
  · rename_i t ds hc
    split at e
    · rename_i c
      cases e
      obtain ⟨a, xs, rfl, q, h⟩ := cont_ok R ry hc
      cases rx with
      | own _ => cases c.1
      | pure rx =>
        refine ⟨a, xs, rfl, ?_, flat_rp rx c.1, all_flat q c.2, ?_⟩
        · rcases h with ⟨_, h⟩ | ⟨_, h⟩
          · exact .inl h
          · exact .inr h
        · rw [any_eq rx c.1 q c.2]
          exact k F H _ (Same.refl F) R (.pure (.bl _))
    · cases e
  · cases e
theorem o_notIn : OpM X (compareOp .NotIn) O.notIn := by
  refine ⟨_, op_notIn_seq, ?_⟩
  intro Tb B F rho om z σ H x y xv yv d R rx ry e Q k
  unfold O.notIn at e
  split at e
  · rename_i t ds hc
    split at e
    · rename_i c
      cases e
      obtain ⟨a, xs, rfl, q, h⟩ := cont_ok R ry hc
      cases rx with
      | own _ => cases c.1
      | pure rx =>
        refine ⟨a, xs, rfl, ?_, flat_rp rx c.1, all_flat q c.2, ?_⟩
        · rcases h with ⟨_, h⟩ | ⟨_, h⟩
          · exact .inl h
          · exact .inr h
        · rw [any_eq rx c.1 q c.2]
          exact k F H _ (Same.refl F) R (.pure (.bl _))
    · cases e
  · cases e

/-! ### lists of ints, of bools -/
theorem ofInts_ok {K : Kx} {F : Hp} {rho : List Addr} : ∀ {ds : List D} {vs : List V} {ns : List Int}, Mi.F.ofInts ds = some ns → Rps K F rho ds vs → vs = ns.map V.int
  | [], _, _, h, .nil => by cases h; rfl
  | d :: ds, _, _, h, .cons r q => by
    cases d <;> try (cases h; done)
    rename_i i
    rw [Mi.F.ofInts] at h
    cases hn : Mi.F.ofInts ds with
    | none => rw [hn] at h; cases h
    | some ns =>
      rw [hn] at h
      cases h
      cases r
      rw [List.map_cons, ofInts_ok hn q]
theorem ofBools_ok {K : Kx} {F : Hp} {rho : List Addr} : ∀ {ds : List D} {vs : List V} {ns : List Bool}, Mi.F.ofBools ds = some ns → Rps K F rho ds vs → vs = ns.map V.bl
  | [], _, _, h, .nil => by cases h; rfl
  | d :: ds, _, _, h, .cons r q => by
    cases d <;> try (cases h; done)
    rename_i i
    rw [Mi.F.ofBools] at h
    cases hn : Mi.F.ofBools ds with
    | none => rw [hn] at h; cases h
    | some ns =>
      rw [hn] at h
      cases h
      cases r
      rw [List.map_cons, ofBools_ok hn q]
theorem lstI_ok {K : Kx} {B : Bs} {F : Hp} {rho : List Addr} {om : Nat → Option Addr} {z : Z} {σ : L2.St} {H : Hp} {d : D} {v : V} {ns : List Int} (R : Rl K B F rho om z σ H) (r : Rv K F rho om d v) (h : Mi.F.lstI d z = some ns) : ∃ a, v = .ref a ∧ SqL K H a (ns.map V.int) := by
  unfold Mi.F.lstI at h
  split at h
  · rename_i ds hc
    obtain ⟨a, xs, rfl, q, h9⟩ := cont_ok R r hc
    obtain rfl := ofInts_ok h q
    rcases h9 with ⟨_, h9⟩ | ⟨h8, _⟩
    · exact ⟨a, rfl, h9⟩
    · cases h8
  · cases h
theorem lstB_ok {K : Kx} {B : Bs} {F : Hp} {rho : List Addr} {om : Nat → Option Addr} {z : Z} {σ : L2.St} {H : Hp} {d : D} {v : V} {ns : List Bool} (R : Rl K B F rho om z σ H) (r : Rv K F rho om d v) (h : Mi.F.lstB d z = some ns) : ∃ a, v = .ref a ∧ SqL K H a (ns.map V.bl) := by
  unfold Mi.F.lstB at h
  split at h
  · rename_i ds hc
    obtain ⟨a, xs, rfl, q, h9⟩ := cont_ok R r hc
    obtain rfl := ofBools_ok h q
    rcases h9 with ⟨_, h9⟩ | ⟨h8, _⟩
    · exact ⟨a, rfl, h9⟩
    · cases h8
  · cases h
theorem foldl_max : ∀ (xs : List Int) (x : Int), (xs.foldl (fun a b => if a < b then b else a) x ∈ x :: xs) ∧ ∀ y ∈ x :: xs, y ≤ xs.foldl (fun a b => if a < b then b else a) x
  | [], x => ⟨by simp, fun y h => by simp at h; subst h; exact Int.le_refl _⟩
  | b :: xs, x => by
    obtain ⟨h1, h2⟩ := foldl_max xs (if x < b then b else x)
    refine ⟨?_, fun y hy => ?_⟩
    · rw [List.foldl_cons]
      rcases List.mem_cons.mp h1 with h | h
      · rw [h]
        split
        · simp
        · simp
      · exact List.mem_cons_of_mem _ (List.mem_cons_of_mem _ h)
    · rw [List.foldl_cons]
      have h0 := h2 _ List.mem_cons_self
      rcases List.mem_cons.mp hy with h | h
      · subst h
        refine Int.le_trans ?_ h0
        split <;> omega
      · rcases List.mem_cons.mp h with h | h
        · subst h
          refine Int.le_trans ?_ h0
          split <;> omega
        · exact h2 y (List.mem_cons_of_mem _ h)
theorem foldl_min : ∀ (xs : List Int) (x : Int), (xs.foldl (fun a b => if b < a then b else a) x ∈ x :: xs) ∧ ∀ y ∈ x :: xs, xs.foldl (fun a b => if b < a then b else a) x ≤ y
  | [], x => ⟨by simp, fun y h => by simp at h; subst h; exact Int.le_refl _⟩
  | b :: xs, x => by
    obtain ⟨h1, h2⟩ := foldl_min xs (if b < x then b else x)
    refine ⟨?_, fun y hy => ?_⟩
    · rw [List.foldl_cons]
      rcases List.mem_cons.mp h1 with h | h
      · rw [h]
        split
        · simp
        · simp
      · exact List.mem_cons_of_mem _ (List.mem_cons_of_mem _ h)
    · rw [List.foldl_cons]
      have h0 := h2 _ List.mem_cons_self
      rcases List.mem_cons.mp hy with h | h
      · subst h
        refine Int.le_trans h0 ?_
        split <;> omega
      · rcases List.mem_cons.mp h with h | h
        · subst h
          refine Int.le_trans h0 ?_
          split <;> omega
        · exact h2 y (List.mem_cons_of_mem _ h)
theorem f_sum (hc : X.calm = true) : CallM X (.builtin "sum") Mi.F.sum := by
  refine ⟨_, cr_sum hc, ?_⟩
  intro Tb B F rho om z σ H xs vs d R r e Q k
  unfold Mi.F.sum at e
  split at e
  · obtain ⟨v, rfl, rv⟩ := rvs1 r
    rename_i x
    cases hl : Mi.F.lstI x z with
    | none => rw [hl] at e; cases e
    | some ns =>
      rw [hl] at e
      cases e
      obtain ⟨a, rfl, h⟩ := lstI_ok R rv hl
      exact ⟨a, ns, rfl, h, k F H _ (Same.refl F) R (.pure (.int _))⟩
  · cases e
theorem f_max1 (hc : X.calm = true) : CallM X (.builtin "max") Mi.F.max1 := by
  refine ⟨_, cr_max hc, ?_⟩
  intro Tb B F rho om z σ H xs vs d R r e Q k
  unfold Mi.F.max1 at e
  split at e
  · obtain ⟨v, rfl, rv⟩ := rvs1 r
    rename_i x
    split at e
    · rename_i ns hl
      obtain ⟨a, rfl, h⟩ := lstI_ok R rv hl
      cases ns with
      | nil => cases e
      | cons n ns =>
        cases e
        refine ⟨a, n :: ns, rfl, h, Nat.succ_pos _, fun m hm hle => ?_⟩
        obtain ⟨h1, h2⟩ := foldl_max ns n
        have q : m = ns.foldl (fun a b => if a < b then b else a) n := Int.le_antisymm (h2 m hm) (hle _ h1)
        rw [q]
        exact k F H _ (Same.refl F) R (.pure (.int _))
    · cases e
  · cases e
theorem f_min1 (hc : X.calm = true) : CallM X (.builtin "min") Mi.F.min1 := by
  refine ⟨_, cr_min hc, ?_⟩
  intro Tb B F rho om z σ H xs vs d R r e Q k
  unfold Mi.F.min1 at e
  split at e
  · obtain ⟨v, rfl, rv⟩ := rvs1 r
    rename_i x
    split at e
    · rename_i ns hl
      obtain ⟨a, rfl, h⟩ := lstI_ok R rv hl
      cases ns with
      | nil => cases e
      | cons n ns =>
        cases e
        refine ⟨a, n :: ns, rfl, h, Nat.succ_pos _, fun m hm hle => ?_⟩
        obtain ⟨h1, h2⟩ := foldl_min ns n
        have q : m = ns.foldl (fun a b => if b < a then b else a) n := Int.le_antisymm (hle _ h1) (h2 m hm)
        rw [q]
        exact k F H _ (Same.refl F) R (.pure (.int _))
    · cases e
  · cases e
theorem f_all1 (hc : X.calm = true) : CallM X (.builtin "all") Mi.F.all1 := by
  refine ⟨_, cr_all hc, ?_⟩
  intro Tb B F rho om z σ H xs vs d R r e Q k
  unfold Mi.F.all1 at e
  split at e
  · obtain ⟨v, rfl, rv⟩ := rvs1 r
    rename_i x
    cases hl : Mi.F.lstB x z with
    | none => rw [hl] at e; cases e
    | some ns =>
      rw [hl] at e
      cases e
      obtain ⟨a, rfl, h⟩ := lstB_ok R rv hl
      exact ⟨a, ns, rfl, h, k F H _ (Same.refl F) R (.pure (.bl _))⟩
  · cases e
theorem f_any1 (hc : X.calm = true) : CallM X (.builtin "any") Mi.F.any1 := by
  refine ⟨_, cr_any hc, ?_⟩
  intro Tb B F rho om z σ H xs vs d R r e Q k
  unfold Mi.F.any1 at e
  split at e
  · obtain ⟨v, rfl, rv⟩ := rvs1 r
    rename_i x
    cases hl : Mi.F.lstB x z with
    | none => rw [hl] at e; cases e
    | some ns =>
      rw [hl] at e
      cases e
      obtain ⟨a, rfl, h⟩ := lstB_ok R rv hl
      exact ⟨a, ns, rfl, h, k F H _ (Same.refl F) R (.pure (.bl _))⟩
  · cases e

/-! ### isinstance(x, T), T a built-in class -/
theorem tyName_ok {K : Kx} {B : Bs} {F : Hp} {rho : List Addr} {om : Nat → Option Addr} {z : Z} {σ : L2.St} {H : Hp} {d : D} {v : V} {t : String} (R : Rl K B F rho om z σ H) (r : Rv K F rho om d v) (h : Mi.F.tyName d z = some t) : TyX K H v (.type t) := by
  cases r with
  | pure r =>
    cases r with
    | non => cases h; exact .base .non
    | bl b => cases h; exact .base (.bl b)
    | int b => cases h; exact .base (.int b)
    | str b => cases h; exact .base (.str b)
    | tup q _ =>
      cases h
      exact .base (.tup (R.rh.fro _ _ q))
    | kt q _ =>
      cases h
      rcases Same.sqt R.rh.fro q with (q | ⟨o, q⟩) | ⟨o, its, n, q, c, _⟩
      · exact .base (.tup q)
      · exact .fTuple q
      · exact .kTuple q c
    | lst q _ =>
      cases h
      exact .base (.lst (R.rh.fro _ _ q))
    | @ref n a q =>
      have h : (match z.h[n]? with | some (.lst _) => some "list" | _ => none) = some t := h
      split at h
      · rename_i xs hx
        cases h
        obtain ⟨ys, h1, h2⟩ := R.rh.obs n _ a hx q
        exact .base (.lst h1)
      · cases h
    | _ => cases h
  | @own i a q =>
    have h : (match z.s[i]? with | some (.own (.lst _)) => some "list" | _ => none) = some t := h
    split at h
    · rename_i xs hx
      cases h
      obtain ⟨a', h1, _, h2⟩ := R.sl i _ hx
      rw [q] at h1
      cases h1
      obtain ⟨ys, h3, h4⟩ := h2
      exact .base (.lst h3)
    · cases h
/-- the answer: T the class's name -/
def F.isi (T : String) (x : D) (z : Z) : Option D := match Mi.F.tyName x z with
  | some t => (kitB t T).map .bl
  | none => none
theorem isi_go {K : Kx} {T : String} {m : M D} : ∀ σ H Q, Te K (E.un (Mi.F.isi T) m) σ H Q → tCB (rIsi K) (tCons (Te K m) (tCons (tC (.ty T)) tNil)) σ H Q := by
  rintro σ H Q ⟨B, F, rho, om, z, g⟩
  refine (g.bnd.imp fun _ _ H1 _ _ v _ _ _ _ _ ⟨F2, rho2, z2, x, eg1, s1, p1, r1, g1⟩ => ?_).tx (R := rV K)
  obtain ⟨R, d, z4, e, k⟩ := g1
  dsimp only at e
  split at e
  · cases e
  · rename_i d' hd
    cases e
    unfold Mi.F.isi at hd
    split at hd
    · rename_i t ht
      cases hk : kitB t T with
      | none => rw [hk] at hd; cases hd
      | some b =>
        rw [hk] at hd
        cases hd
        show rIsi K [v, .ty T] H1 Q
        exact ⟨v, .ty T, .type t, .type T, b, rfl, .ty T, tyName_ok R r1 ht, kit_ty hk, k F2 rho2 H1 _ (Same.refl _) (List.prefix_refl _) R (.pure (.bl b))⟩
    · cases hd
theorem me_isi {T : String} {Tn : Str} {p p2 pos : Pos} {e : Expr} {m : M D} (hg : Gl X "isinstance") (hm : X.mg "isinstance" = none) (hg2 : Gl X Tn) (hm2 : X.mg Tn = none) (hv2 : bootBuiltins Tn = some (.type T)) (ha : PE X e (Te (kx X Tb) m)) (hn : Tn ≠ "__name__" := by decide) (hdb : (Tn == ("__debug__" : Str)) = false := by decide)
    (hv : bootBuiltins "isinstance" = some (.builtin "isinstance") := by decide +kernel) (he : starEach [e, .Name Tn p2] X.env = (false, eval e X.env) :: starEach [.Name Tn p2] X.env := by rfl) (he2 : starEach [.Name Tn p2] X.env = (false, eval (.Name Tn p2) X.env) :: starEach [] X.env := by rfl)
    (hpl : (backTo pos (starEach [.Name Tn p2] X.env)).any (·.1) = false := by rfl) : PE X (.Call (.Name "isinstance" p) [e, .Name Tn p2] [] pos) (Te (kx X Tb) (E.un (Mi.F.isi T) m)) :=
  pe_imp (pe_callB call_isi hg hm hv (pa_cons ha (pa_cons (pe_bltn hg2 hm2 hv2 (v := .ty T) rfl hn hdb) pa_nil he2) he) (by decide) (by decide) he hpl) isi_go

/-! ### new lists from lists -/
theorem mf_list {p pos : Pos} {e : Expr} {m : M D} (hg : Gl X "list") (hm : X.mg "list" = none) (ha : PE X e (Te (kx X Tb) m)) (hv : bootBuiltins "list" = some (.type "list") := by decide +kernel)
    (he : starEach [e] X.env = (false, eval e X.env) :: starEach [] X.env := by rfl) (hpl : (backTo pos (starEach [] X.env)).any (·.1) = false := by rfl) : PE X (.Call (.Name "list" p) [e] [] pos) (Tf (kx X Tb) (N.ofSeq m)) := by
  refine pe_imp (pe_callTy call_list_of hg hm hv (pa_cons ha pa_nil he) (by decide) (by decide) he hpl) fun σ H Q ⟨B, F, rho, om, z, g⟩ => ?_
  refine (g.bnd.imp fun _ _ H1 _ _ v _ _ _ _ _ ⟨F2, rho2, z2, x, eg1, s1, p1, r1, g1⟩ => ?_).tx (R := rV (kx X Tb))
  obtain ⟨R, d, z4, e, k⟩ := g1
  dsimp only at e
  split at e
  · rename_i t ds hc
    cases e
    obtain ⟨a, xs, rfl, q, h⟩ := cont_ok R r1 hc
    refine ⟨a, xs, rfl, ?_, fun l hl => ?_⟩
    · rcases h with ⟨_, h⟩ | ⟨_, h⟩
      · exact .inl h
      · exact .inr h
    · obtain ⟨R2, f2⟩ := R.new (o := .lst xs) hl
      exact k F2 rho2 _ _ (Same.refl _) (List.prefix_refl _) R2 ⟨l, xs, rfl, upd_same, f2, q⟩
  · cases e
theorem mo_none : PO X none (To (kx X Tb) (N.part none)) := po_imp po_none fun σ H Q ⟨B, F, rho, om, z, g⟩ => g.ret none rfl
theorem mo_some {e : Expr} {m : M D} (h : PE X e (Te (kx X Tb) m)) : PO X (some e) (To (kx X Tb) (N.part (some m))) := by
  refine po_imp (po_some h) fun σ H Q ⟨B, F, rho, om, z, g⟩ => ?_
  refine (g.bnd.imp fun _ _ H1 _ _ v _ _ _ _ _ ⟨F2, rho2, z2, x, eg1, s1, p1, r1, g1⟩ => ?_).tx (R := rV (kx X Tb))
  cases r1 with
  | own _ => obtain ⟨_, _, _, e, _⟩ := g1; cases e
  | pure r1 =>
    cases r1 with
    | int i => exact ⟨i, rfl, g1.ret _ rfl⟩
    | _ => obtain ⟨_, _, _, e, _⟩ := g1; cases e
theorem cut_rps {K : Kx} {F : Hp} {rho : List Addr} {ds : List D} {vs : List V} (r : Rps K F rho ds vs) (lo hi : Option Int) : Rps K F rho (N.cutL ds lo hi) (cutV vs lo hi) := by
  unfold N.cutL cutV
  rw [r.length]
  exact (r.drop _).take _
theorem mf_slice {e : Expr} {lo hi : Option Expr} {p2 pos : Pos} {m : M D} {ml mh : Option (M D)} (he : PE X e (Te (kx X Tb) m)) (hl : PO X lo (To (kx X Tb) (N.part ml))) (hu : PO X hi (To (kx X Tb) (N.part mh))) : PE X (.Subscript e (.Slice lo hi none p2) pos) (Tf (kx X Tb) (N.slice m ml mh)) := by
  refine pe_imp (pe_slice sl_list he hl hu) fun σ H Q ⟨B, F, rho, om, z, g⟩ => ?_
  refine (g.bnd.imp fun _ _ H1 _ _ v _ _ _ _ _ ⟨F2, rho2, z2, x, eg1, s1, p1, r1, g1⟩ => ?_).tx (R := rV (kx X Tb))
  refine (g1.bnd.imp fun _ _ H3 _ _ l _ _ _ _ _ ⟨F4, rho4, z4, l', eg2, s2, p2, r2, g2⟩ => ?_).tx (R := rO)
  refine (g2.bnd.imp fun _ _ H5 _ _ u _ _ _ _ _ ⟨F6, rho6, z6, u', eg3, s3, p3, r3, g3⟩ => ?_).tx (R := rO)
  have r2 : l = l' := r2
  have r3 : u = u' := r3
  subst r2 r3
  obtain ⟨R, d, z7, e, k⟩ := g3
  dsimp only at e
  split at e
  · rename_i ds hc
    cases e
    obtain ⟨a, xs, rfl, q, h⟩ := cont_ok R ((r1.mono s2 p2).mono s3 p3) hc
    rcases h with ⟨_, h⟩ | ⟨h8, _⟩
    · refine ⟨a, xs, rfl, h, fun p hp => ?_⟩
      obtain ⟨R2, f2⟩ := R.new (o := .lst (cutV xs l u)) hp
      exact k F6 rho6 _ _ (Same.refl _) (List.prefix_refl _) R2 ⟨p, _, rfl, upd_same, f2, cut_rps q l u⟩
    · cases h8
  · cases e
/-- a list that is no module's constant -/
theorem cont_lst {K : Kx} {B : Bs} {F : Hp} {rho : List Addr} {om : Nat → Option Addr} {z : Z} {σ : L2.St} {H : Hp} {d : D} {v : V} {ds : List D} (R : Rl K B F rho om z σ H) (r : Rv K F rho om d v) (e : cont d z = some (false, ds)) (hs : ∀ xs, d ≠ .scr xs) : ∃ a xs, v = .ref a ∧ Rps K F rho ds xs ∧ H a = some (.lst xs) := by
  cases r with
  | pure r =>
    cases r with
    | lst h q =>
      cases e
      exact ⟨_, _, rfl, q, R.rh.fro _ _ h⟩
    | scr h q => exact absurd rfl (hs _)
    | @ref n a h =>
      have e : (match z.h[n]? with | some (.lst xs) => some (false, xs) | _ => none) = some (false, ds) := e
      split at e
      · rename_i xs hx
        cases e
        obtain ⟨ys, h1, h2⟩ := R.rh.obs n _ a hx h
        exact ⟨a, ys, rfl, h2, h1⟩
      · cases e
    | _ => cases e
  | @own i a h =>
    have e : (match z.s[i]? with | some (.own (.lst xs)) => some (false, xs) | _ => none) = some (false, ds) := e
    split at e
    · rename_i xs hx
      cases e
      obtain ⟨a', h1, _, h2⟩ := R.sl i _ hx
      rw [h] at h1
      cases h1
      obtain ⟨ys, h3, h4⟩ := h2
      exact ⟨a, ys, rfl, h4, h3⟩
    · cases e
theorem szl_ok {n : Nat} (h : n < szl) : n < sizeLine := Nat.lt_trans h (by decide)
theorem mf_cat {a b : Expr} {pos : Pos} {ma mb : M D} (ha : PE X a (Te (kx X Tb) ma)) (hb : PE X b (Te (kx X Tb) mb)) : PE X (.BinOp a .Add b pos) (Tf (kx X Tb) (N.cat ma mb)) := by
  refine pe_imp (pe_op op_cat ha hb) fun σ H Q ⟨B, F, rho, om, z, g⟩ => ?_
  refine (g.bnd.imp fun _ _ H1 _ _ v _ _ _ _ _ ⟨F2, rho2, z2, x, eg1, s1, p1, r1, g1⟩ => ?_).tx (R := rV (kx X Tb))
  refine (g1.bnd.imp fun _ _ H3 _ _ w _ _ _ _ _ ⟨F4, rho4, z4, y, eg2, s2, p2, r2, g2⟩ => ?_).tx (R := rV (kx X Tb))
  obtain ⟨R, d, z7, e, k⟩ := g2
  dsimp only at e
  split at e
  · cases e
  · cases e
  · rename_i hx hy
    split at e
    · rename_i ds es h1 h2
      split at e
      · rename_i hz
        cases e
        obtain ⟨a, xs, rfl, q1, h1⟩ := cont_lst R (r1.mono s2 p2) h1 hx
        obtain ⟨b, ys, rfl, q2, h2⟩ := cont_lst R r2 h2 hy
        refine ⟨a, b, xs, ys, rfl, rfl, h1, h2, ?_, fun p hp => ?_⟩
        · rw [← q1.length, ← q2.length]
          exact Nat.le_of_lt (szl_ok hz)
        · obtain ⟨R2, f2⟩ := R.new (o := .lst (xs ++ ys)) hp
          exact k F4 rho4 _ _ (Same.refl _) (List.prefix_refl _) R2 ⟨p, _, rfl, upd_same, f2, q1.append q2⟩
      · cases e
    · cases e

/-! ### changes of a list -/
/-- a change, by values: what the rule asks where the list at l holds xs -/
def ChgV (r : V → List V → Hp → VK → Prop) (f : List D → List D → Option (D × List D)) : Prop :=
  ∀ {K : Kx} {F : Hp} {rho : List Addr} {H : Hp} {l : Addr} {xs vs : List V} {ds as ds' : List D} {d : D}, Same F H → H l = some (.lst xs) → Rps K F rho ds xs → Rps K F rho as vs → f ds as = some (d, ds') →
    ∀ Q : VK, (∀ v xs', Rp K F rho d v → Rps K F rho ds' xs' → Q v (upd H l (.lst xs'))) → r (.ref l) vs H Q
theorem chg_go {K : Kx} {r : V → List V → Hp → VK → Prop} {f : List D → List D → Option (D × List D)} (hv : ChgV r f) {B : Bs} {F : Hp} {rho : List Addr} {om : Nat → Option Addr} {z : Z} {σ : L2.St} {H : Hp} {x : D} {v : V} {xs : List D} {vs : List V} {Q : VK} (r1 : Rv K F rho om x v) (r2 : Rps K F rho xs vs)
    (g : Go K (rV K) B F rho om (E.chgF f x xs) z σ H Q) : r v vs H Q := by
  obtain ⟨R, d, z7, e, k⟩ := g
  cases x with
  | own i =>
    cases r1 with
    | pure r1 => cases r1
    | own h =>
      have e : (match z.s[i]? with
        | some (.own (.lst ds)) => match f ds xs with
          | none => none
          | some (d, ds') => some (d, (⟨z.s.set i (.own (.lst ds')), z.h⟩ : Z))
        | _ => none) = some (d, z7) := e
      split at e
      · rename_i ds hs
        split at e
        · cases e
        · rename_i d' ds' hf
          cases e
          obtain ⟨a', h1, h5, h2⟩ := R.sl i _ hs
          rw [h] at h1
          cases h1
          obtain ⟨ys, h3, h4⟩ := h2
          exact hv R.rh.fro h3 h4 r2 hf Q fun v xs' q1 q2 => k F rho _ _ (Same.refl _) (List.prefix_refl _) (R.mutOwn h hs ⟨xs', upd_same, q2⟩) (.pure q1)
      · cases e
  | ref n =>
    cases r1 with
    | pure r1 =>
      cases r1 with
      | ref h =>
        have e : (match z.h[n]? with
          | some (.lst ds) => match f ds xs with
            | none => none
            | some (d, ds') => some (d, (⟨z.s, z.h.set n (.lst ds')⟩ : Z))
          | _ => none) = some (d, z7) := e
        split at e
        · rename_i ds hs
          split at e
          · cases e
          · rename_i d' ds' hf
            cases e
            obtain ⟨ys, h3, h4⟩ := R.rh.obs n _ _ hs h
            exact hv R.rh.fro h3 h4 r2 hf Q fun v xs' q1 q2 => k F rho _ _ (Same.refl _) (List.prefix_refl _) (R.mutRef h ⟨xs', upd_same, q2⟩) (.pure q1)
        · cases e
  | _ => cases e
/-- what may be changed is a list -/
theorem chg_ty {K : Kx} {B : Bs} {F : Hp} {rho : List Addr} {om : Nat → Option Addr} {z : Z} {σ : L2.St} {H : Hp} {x : D} {v : V} (R : Rl K B F rho om z σ H) (r1 : Rv K F rho om x v) (hx : E.isLst x z = true) : tyV K "list" v H := by
  have byc : ∀ ds b, cont x z = some (b, ds) → (∀ xs, x ≠ .tup xs ∧ x ≠ .kt xs) → tyV K "list" v H := fun ds b hc hn => by
    obtain ⟨a, xs, rfl, q, h⟩ := cont_ok R r1 hc
    rcases h with ⟨_, h⟩ | ⟨hb, _⟩
    · exact .inl ⟨rfl, xs, h⟩
    · rw [hb] at hc
      rcases cont_tup hc with c | c
      · exact absurd c (hn ds).1
      · exact absurd c (hn ds).2
  cases x with
  | own i =>
    cases hc : cont (.own i) z with
    | none =>
      unfold E.isLst at hx
      rw [hc] at hx
      cases hx
    | some p => exact byc p.2 p.1 hc (fun xs => ⟨(fun e => nomatch e), (fun e => nomatch e)⟩)
  | ref i =>
    cases hc : cont (.ref i) z with
    | none =>
      unfold E.isLst at hx
      rw [hc] at hx
      cases hx
    | some p => exact byc p.2 p.1 hc (fun xs => ⟨(fun e => nomatch e), (fun e => nomatch e)⟩)
  | _ => cases hx
theorem bm_go {K : Kx} {r : V → List V → Hp → VK → Prop} {f : List D → List D → Option (D × List D)} (hv : ChgV r f) {m : M D} {ms : List (M D)} : ∀ σ H Q, Te K (E.chg f m ms) σ H Q → tBM K "list" r (Te K m) (Ta K (E.args ms)) σ H Q := by
  rintro σ H Q ⟨B, F, rho, om, z, g⟩
  refine (g.bnd.imp fun _ _ H1 _ _ v _ _ _ _ _ ⟨F2, rho2, z2, x, eg1, s1, p1, r1, g1⟩ => ?_).tx (R := rV K)
  obtain ⟨R, d, z7, e, k⟩ := g1
  dsimp only at e
  split at e
  · rename_i hx
    refine ⟨chg_ty R r1 hx, ?_⟩
    have g2 : Go K (rV K) B F2 rho2 om (bnd (E.args ms) fun xs => E.chgF f x xs) z2 σ H1 Q := ⟨R, d, z7, e, k⟩
    refine (g2.bnd.imp fun _ _ H3 _ _ vs _ _ _ _ _ ⟨F4, rho4, z4, xs, eg4, s4, p4, r4, g4⟩ => ?_).tx (R := rA K)
    exact chg_go hv (r1.mono s4 p4) r4 g4
  · cases e
theorem bm0_go {K : Kx} {r : V → List V → Hp → VK → Prop} {f : List D → List D → Option (D × List D)} (hv : ChgV r f) {m : M D} : ∀ σ H Q, Te K (E.chg f m []) σ H Q → tBM0 K "list" r (Te K m) σ H Q := by
  rintro σ H Q ⟨B, F, rho, om, z, g⟩
  refine (g.bnd.imp fun _ _ H1 _ _ v _ _ _ _ _ ⟨F2, rho2, z2, x, eg1, s1, p1, r1, g1⟩ => ?_).tx (R := rV K)
  obtain ⟨R, d, z7, e, k⟩ := g1
  dsimp only at e
  split at e
  · rename_i hx
    exact ⟨chg_ty R r1 hx, chg_go hv r1 .nil ⟨R, d, z7, e, k⟩⟩
  · cases e
theorem v_append : ChgV rAppend U.append := by
  intro K F rho H l xs vs ds as ds' d s h q1 q2 e Q k
  unfold U.append at e
  split at e
  · rename_i x
    split at e
    · rename_i hz
      cases e
      cases q2 with
      | cons r t =>
        cases t
        exact ⟨l, xs, _, rfl, rfl, h, by rw [← q1.length]; exact szl_ok hz, k _ _ .non (q1.append (.one r))⟩
    · cases e
  · cases e
theorem v_pop : ChgV rPop U.pop := by
  intro K F rho H l xs vs ds as ds' d s h q1 q2 e Q k
  unfold U.pop at e
  split at e
  · cases q2
    split at e
    · rename_i d' hd
      cases e
      obtain ⟨v, hv, rv⟩ := q1.get hd
      exact ⟨l, xs, v, rfl, rfl, h, by rw [← q1.length]; exact hv, k _ _ rv q1.dropLast⟩
    · cases e
  · cases e
theorem v_popAt : ChgV rPopAt U.popAt := by
  intro K F rho H l xs vs ds as ds' d s h q1 q2 e Q k
  unfold U.popAt at e
  split at e
  · rename_i i
    split at e
    · rename_i hi
      split at e
      · rename_i kk hk
        split at e
        · rename_i d' hd
          cases e
          cases q2 with
          | cons r t =>
            cases t
            cases r
            obtain ⟨v, hv, rv⟩ := q1.get hd
            exact ⟨l, xs, i, kk, v, rfl, rfl, h, hi.1, hi.2, by rw [← q1.length]; exact (ixN_seq hk).1, hv, k _ _ rv (q1.eraseIdx kk)⟩
        · cases e
      · cases e
    · cases e
  · cases e
theorem v_extend : ChgV rExtend U.extend := by
  intro K F rho H l xs vs ds as ds' d s h q1 q2 e Q k
  unfold U.extend at e
  split at e
  · rename_i ys
    split at e
    · rename_i hz
      cases e
      cases q2 with
      | cons r t =>
        cases t
        cases r with
        | @lst b zs _ hb hr =>
          exact ⟨l, b, xs, zs, rfl, rfl, h, s _ _ hb, by rw [← q1.length, ← hr.length]; exact Nat.le_of_lt (szl_ok hz), k _ _ .non (q1.append hr)⟩
    · cases e
  · cases e
section
variable {o e : Expr} {es : List Expr} {apos cpos : Pos} {m : M D} {ms : List (M D)}
theorem me_append (ho : PE X o (Te (kx X Tb) m)) (ha : PA X (e :: es) (Ta (kx X Tb) (E.args ms))) (hbase : attributeBase o "append" X.env (eval o X.env) = eval o X.env := by rfl)
    (hfew : ((backTo cpos (starEach (e :: es) X.env)).all (fun x => !x.1) && (backToKw cpos (keywordEach [] X.env)).all (fun x => x.1.isSome) && decide ((e :: es).length + ([] : List Keyword).length + (if ([] : List Keyword).isEmpty then 0 else 1) < 30)) = true := by rfl)
    (hline : (apos.endLine == cpos.line) = true := by rfl) (hs : starEach (e :: es) X.env = (false, eval e X.env) :: starEach es X.env := by rfl) (hplain : (backTo cpos (starEach es X.env)).any (·.1) = false := by rfl) :
    PE X (.Call (.Attribute o "append" apos) (e :: es) [] cpos) (Te (kx X Tb) (E.chg U.append m ms)) :=
  pe_imp (pe_bm PySem.F.plainAttrs_list PySem.F.slot_list_append PySem.F.type_list_append mt_append ho ha hbase hfew hline hs hplain) (bm_go v_append)
theorem me_extend (ho : PE X o (Te (kx X Tb) m)) (ha : PA X (e :: es) (Ta (kx X Tb) (E.args ms))) (hbase : attributeBase o "extend" X.env (eval o X.env) = eval o X.env := by rfl)
    (hfew : ((backTo cpos (starEach (e :: es) X.env)).all (fun x => !x.1) && (backToKw cpos (keywordEach [] X.env)).all (fun x => x.1.isSome) && decide ((e :: es).length + ([] : List Keyword).length + (if ([] : List Keyword).isEmpty then 0 else 1) < 30)) = true := by rfl)
    (hline : (apos.endLine == cpos.line) = true := by rfl) (hs : starEach (e :: es) X.env = (false, eval e X.env) :: starEach es X.env := by rfl) (hplain : (backTo cpos (starEach es X.env)).any (·.1) = false := by rfl) :
    PE X (.Call (.Attribute o "extend" apos) (e :: es) [] cpos) (Te (kx X Tb) (E.chg U.extend m ms)) :=
  pe_imp (pe_bm PySem.F.plainAttrs_list PySem.F.slot_list_extend PySem.F.type_list_extend mt_extend ho ha hbase hfew hline hs hplain) (bm_go v_extend)
theorem me_popAt (ho : PE X o (Te (kx X Tb) m)) (ha : PA X (e :: es) (Ta (kx X Tb) (E.args ms))) (hbase : attributeBase o "pop" X.env (eval o X.env) = eval o X.env := by rfl)
    (hfew : ((backTo cpos (starEach (e :: es) X.env)).all (fun x => !x.1) && (backToKw cpos (keywordEach [] X.env)).all (fun x => x.1.isSome) && decide ((e :: es).length + ([] : List Keyword).length + (if ([] : List Keyword).isEmpty then 0 else 1) < 30)) = true := by rfl)
    (hline : (apos.endLine == cpos.line) = true := by rfl) (hs : starEach (e :: es) X.env = (false, eval e X.env) :: starEach es X.env := by rfl) (hplain : (backTo cpos (starEach es X.env)).any (·.1) = false := by rfl) :
    PE X (.Call (.Attribute o "pop" apos) (e :: es) [] cpos) (Te (kx X Tb) (E.chg U.popAt m ms)) :=
  pe_imp (pe_bm PySem.F.plainAttrs_list PySem.F.slot_list_pop PySem.F.type_list_pop mt_popAt ho ha hbase hfew hline hs hplain) (bm_go v_popAt)
theorem me_pop (ho : PE X o (Te (kx X Tb) m)) (hbase : attributeBase o "pop" X.env (eval o X.env) = eval o X.env := by rfl) (hline : (apos.endLine == cpos.line) = true := by rfl) :
    PE X (.Call (.Attribute o "pop" apos) [] [] cpos) (Te (kx X Tb) (E.chg U.pop m [])) :=
  pe_imp (pe_bm0 PySem.F.plainAttrs_list PySem.F.slot_list_pop PySem.F.type_list_pop mt_pop ho hbase hline) (bm0_go v_pop)
end
end
end Mi

set_option Elab.async false
set_option linter.all false
set_option maxRecDepth 100000
/-! Mi, part E: targets, what is walked, statements. -/
namespace Mi
open PySem PySem.Spec PyProof.Rows L2

/-! ### targets -/
def Tg (K : Kx) (g : G) : TG := fun v σ H Q => ∃ B F rho om z d, Rl K B F rho om z σ H ∧ Rp K F rho d v ∧ ∃ z', g.run d z = some z' ∧
  ∀ om' σ', (∀ j, ¬ j ∈ g.ws → om' j = om j ∧ σ'[j]? = σ[j]?) → σ'.length = σ.length → (∀ j a, om' j = some a → om j = some a) → Rl K B F rho om' z' σ' H → Q σ' H
def Tgs (K : Kx) (gs : List G) : TGs := fun vs σ H Q => ∃ B F rho om z ds, Rl K B F rho om z σ H ∧ Rps K F rho ds vs ∧ ∃ z', G.runs gs ds z = some z' ∧
  ∀ om' σ', (∀ j, ¬ j ∈ gs.flatMap G.ws → om' j = om j ∧ σ'[j]? = σ[j]?) → σ'.length = σ.length → (∀ j a, om' j = some a → om j = some a) → Rl K B F rho om' z' σ' H → Q σ' H
section
variable {X : Cx} {Tb : List (Addr × Str)}
theorem mg_nm {i : Nat} {x : Str} {pos : Pos} (hN : X.N.Nodup) (hi : X.N[i]? = some x := by rfl) (hx : Loc X.env.scope x := by first | exact Or.inl rfl | exact Or.inr rfl)
    (hf : X.fn x = true ∨ X.env.scope.names.lookup x = some .local := by first | exact .inl rfl | exact .inr rfl) : PG X (.Name x pos) (Tg (kx X Tb) (G.nm i)) := by
  refine pg_imp (pg_name hN hi hx hf) fun v σ H Q ⟨B, F, rho, om, z, d, R, r, z', e, k⟩ => ?_
  cases e
  refine k (omSet om i none) _ (fun j hj => ?_) (by rw [List.length_set]) (fun j a h => (omSet_none h).2) (R.setVal i r)
  have hj : ¬ j = i := fun q => hj (by rw [q]; exact List.mem_singleton.mpr rfl)
  exact ⟨omSet_ne hj, List.getElem?_set_ne (Ne.symm hj)⟩
theorem mgs_nil : PGs X [] (Tgs (kx X Tb) []) := by
  refine pgs_imp pgs_nil fun vs σ H Q ⟨B, F, rho, om, z, ds, R, r, z', e, k⟩ => ?_
  cases r with
  | nil =>
    cases e
    exact ⟨rfl, k om σ (fun _ _ => ⟨rfl, rfl⟩) rfl (fun _ _ h => h) R⟩
  | cons _ _ => cases e
theorem mgs_cons {e : Expr} {es : List Expr} {g : G} {gs : List G} (h1 : PG X e (Tg (kx X Tb) g)) (h2 : PGs X es (Tgs (kx X Tb) gs)) (hs : (assignEach (e :: es) X.env).map (·.2) = assign e X.env :: (assignEach es X.env).map (·.2) := by rfl) : PGs X (e :: es) (Tgs (kx X Tb) (g :: gs)) := by
  refine pgs_imp (pgs_cons h1 h2 hs) fun vs σ H Q ⟨B, F, rho, om, z, ds, R, r, z', e, k⟩ => ?_
  cases r with
  | nil => cases e
  | @cons d v ds vs r q =>
    have e : (match g.run d z with | none => none | some z1 => G.runs gs ds z1) = some z' := e
    split at e
    · cases e
    · rename_i z1 h1
      refine ⟨v, vs, rfl, B, F, rho, om, z, d, R, r, z1, h1, fun om1 σ1 w1 l1 o1 R1 => ?_⟩
      refine ⟨B, F, rho, om1, z1, ds, R1, q, z', e, fun om2 σ2 w2 l2 o2 R2 => ?_⟩
      refine k om2 σ2 (fun j hj => ?_) (l2.trans l1) (fun j a h => o1 j a (o2 j a h)) R2
      rw [List.flatMap_cons, List.mem_append] at hj
      obtain ⟨a1, b1⟩ := w1 j fun q => hj (.inl q)
      obtain ⟨a2, b2⟩ := w2 j fun q => hj (.inr q)
      exact ⟨a2.trans a1, b2.trans b1⟩
theorem runs_len : ∀ {gs : List G} {ds : List D} {z z' : Z}, G.runs gs ds z = some z' → ds.length = gs.length
  | [], [], _, _, _ => rfl
  | [], _ :: _, _, _, h => by cases h
  | _ :: _, [], _, _, h => by cases h
  | g :: gs, d :: ds, z, z', h => by
    have e : (match g.run d z with | none => none | some z1 => G.runs gs ds z1) = some z' := h
    split at e
    · cases e
    · rw [List.length_cons, List.length_cons, runs_len e]
theorem mg_tp {es : List Expr} {k : Nat} {pos : Pos} {gs : List G} (hc : X.calm = true) (h : PGs X es (Tgs (kx X Tb) gs)) (hn : (assignEach es X.env).length = gs.length := by rfl) (hst : (assignEach es X.env).findIdx? (·.1) = none := by rfl) : PG X (.Tuple es k pos) (Tg (kx X Tb) (G.tp gs)) := by
  refine pg_imp (pg_tup hc h hn hst) fun v σ H Q ⟨B, F, rho, om, z, d, R, r, z', e, k⟩ => ?_
  cases r with
  | tup q r =>
    have hl := r.length
    have hl2 := runs_len (show G.runs gs _ z = some z' from e)
    exact ⟨_, _, rfl, SqT.of (R.rh.fro _ _ q), by omega, B, F, rho, om, z, _, R, r, z', e, k⟩
  | kt q r =>
    have hl := r.length
    have hl2 := runs_len (show G.runs gs _ z = some z' from e)
    exact ⟨_, _, rfl, Same.sqt R.rh.fro q, by omega, B, F, rho, om, z, _, R, r, z', e, k⟩
  | _ => cases e
theorem mg_tl {es : List Expr} {k : Nat} {pos : Pos} {gs : List G} (hc : X.calm = true) (h : PGs X es (Tgs (kx X Tb) gs)) (hn : (assignEach es X.env).length = gs.length := by rfl) (hst : (assignEach es X.env).findIdx? (·.1) = none := by rfl) : PG X (.Tuple es k pos) (Tg (kx X Tb) (G.tl gs)) := by
  refine pg_imp (pg_unl hc h hn hst) fun v σ H Q ⟨B, F, rho, om, z, d, R, r, z', e, k⟩ => ?_
  cases r with
  | lst q r =>
    have hl := r.length
    have hl2 := runs_len (show G.runs gs _ z = some z' from e)
    exact ⟨_, _, rfl, SqL.of (R.rh.fro _ _ q), by omega, B, F, rho, om, z, _, R, r, z', e, k⟩
  | _ => cases e
end

/-! ### what is walked -/
/-- the iterator gives the items, as long as what is walked stands as it is -/
def ItOk (K : Kx) (F : Hp) (rho : List Addr) (om : Nat → Option Addr) (it : It) (J : L2.It) : Prop :=
  ∀ B2 F2 rho2 om2 z2 σ2 H2, Same F F2 → rho <+: rho2 → Rl K B2 F2 rho2 om2 z2 σ2 H2 → (om2 = om ∨ ∀ j, it.chk ≠ some (.own j)) → it.ok z2 = true →
    (∀ i, it.items.length ≤ i → J.stop i H2) ∧ ∀ i d, it.items[i]? = some d → J.go i H2 ∧ ∀ x H3, J.yld i H2 x H3 → H3 = H2 ∧ ∃ F3, Same F2 F3 ∧ (∀ a o, H2 a = some o → NT o → F2 a = none → F3 a = none) ∧ Rl K B2 F3 rho2 om2 z2 σ2 H2 ∧ Rp K F3 rho2 d x
def Ti (K : Kx) (mi : M It) : TI := fun σ H R => ∃ B F rho om z, Rl K B F rho om z σ H ∧ ∃ it z', mi z = some (it, z') ∧
  ∀ F' rho' H' J, Same F F' → rho <+: rho' → Rl K B F' rho' om z' σ H' → ItOk K F' rho' om it J → R J H'
/-- no slot's own list is walked -/
def noOwn (mi : M It) : Prop := ∀ z it z' j, mi z = some (it, z') → it.chk ≠ some (.own j)
section
variable {X : Cx} {Tb : List (Addr × Str)} {tg : Expr}
def iSeq (K : PySem.W.Frag) (tl : TE) : TI := fun σ H R => tl σ H fun x H1 => ∃ a, x = .ref a ∧ (((∃ xs, SqL K H1 a xs) ∧ R (Itl K a) H1) ∨ ((∃ xs, SqT K H1 a xs) ∧ R (Itt K a) H1))
theorem pi_seq {l : Expr} {tl : TE} (hl : PE X l tl) : PI X tg l (iSeq X.K tl) := by
  refine ⟨fun pins s σ H R I h => ?_⟩
  refine thn (hl.run pins s σ H _ I h) fun v s1 ⟨x, H1, I1, r1, q1⟩ => ?_
  obtain ⟨a, e, q⟩ := q1
  subst e
  cases r1
  rcases q with ⟨⟨xs, hq⟩, q⟩ | ⟨⟨xs, hq⟩, q⟩
  · obtain ⟨its, rv, p, hz⟩ := I1.list hq
    refine wpAny_pyIter_list p.isList ?_
    refine ⟨s1.heap.objs.size, [s1.heap.objs.size], _, _, H1, rfl, I1.kept (t' := s1.toks) fun b o e => Heap.get?_push_of_some _ e, turn_list a _, ⟨_, Heap.get?_push_size _ rfl, rfl, rfl⟩, fun b hb => ?_, q⟩
    have e : b = s1.heap.objs.size := by simpa using hb
    subst e
    exact I1.fpOk (Nat.le_refl _) (I1.hok.fresh (Nat.le_refl _))
  · obtain ⟨its, rv, p, hz⟩ := I1.tuple hq
    refine wpAny_pyIter_tuple (show s1.heap.IsTuple a its.toArray from p) ?_
    refine ⟨s1.heap.objs.size, [s1.heap.objs.size], _, _, H1, rfl, I1.kept (t' := s1.toks) fun b o e => Heap.get?_push_of_some _ e, turn_tuple a _, ⟨_, Heap.get?_push_size _ rfl, rfl, rfl⟩, fun b hb => ?_, q⟩
    have e : b = s1.heap.objs.size := by simpa using hb
    subst e
    exact I1.fpOk (Nat.le_refl _) (I1.hok.fresh (Nat.le_refl _))
/-- the iterator over a list at a -/
theorem itl_ok {K : Kx} {F : Hp} {rho : List Addr} {om : Nat → Option Addr} {it : It} {a : Addr}
    (h : ∀ B2 F2 rho2 om2 z2 σ2 H2, Same F F2 → rho <+: rho2 → Rl K B2 F2 rho2 om2 z2 σ2 H2 → (om2 = om ∨ ∀ j, it.chk ≠ some (.own j)) → it.ok z2 = true → ∃ xs, SqL K H2 a xs ∧ Rps K F2 rho2 it.items xs) : ItOk K F rho om it (Itl K a) := by
  intro B2 F2 rho2 om2 z2 σ2 H2 s p R ho hk
  obtain ⟨xs, hq, r⟩ := h B2 F2 rho2 om2 z2 σ2 H2 s p R ho hk
  refine ⟨fun i hi => ⟨xs, hq, by rw [← r.length]; exact hi⟩, fun i d hd => ?_⟩
  obtain ⟨v, hv, rv⟩ := r.get hd
  refine ⟨⟨xs, v, hq, hv⟩, fun x H3 ⟨e, y⟩ => ⟨e, F2, Same.refl _, fun _ _ _ _ n => n, R, ?_⟩⟩
  have q := y xs hq
  rw [hv] at q
  cases q
  exact rv
theorem itt_ok {K : Kx} {F : Hp} {rho : List Addr} {om : Nat → Option Addr} {it : It} {a : Addr}
    (h : ∀ B2 F2 rho2 om2 z2 σ2 H2, Same F F2 → rho <+: rho2 → Rl K B2 F2 rho2 om2 z2 σ2 H2 → (om2 = om ∨ ∀ j, it.chk ≠ some (.own j)) → it.ok z2 = true → ∃ xs, SqT K H2 a xs ∧ Rps K F2 rho2 it.items xs) : ItOk K F rho om it (Itt K a) := by
  intro B2 F2 rho2 om2 z2 σ2 H2 s p R ho hk
  obtain ⟨xs, hq, r⟩ := h B2 F2 rho2 om2 z2 σ2 H2 s p R ho hk
  refine ⟨fun i hi => ⟨xs, hq, by rw [← r.length]; exact hi⟩, fun i d hd => ?_⟩
  obtain ⟨v, hv, rv⟩ := r.get hd
  refine ⟨⟨xs, v, hq, hv⟩, fun x H3 ⟨e, y⟩ => ⟨e, F2, Same.refl _, fun _ _ _ _ n => n, R, ?_⟩⟩
  have q := y xs hq
  rw [hv] at q
  cases q
  exact rv
theorem it_ok {it : It} {z : Z} {d : D} (h : it.ok z = true) (hc : it.chk = some d) : ∃ b, cont d z = some (b, it.items) := by
  unfold It.ok at h
  rw [hc] at h
  dsimp only at h
  split at h
  · assumption
  · cases h
/-- the five ways to walk -/
theorem seq_at {K : Kx} {B : Bs} {F : Hp} {rho : List Addr} {om : Nat → Option Addr} {z z' : Z} {σ : L2.St} {H : Hp} {x : D} {v : V} {it : It} {R : L2.It → Hp → Prop} (Rr : Rl K B F rho om z σ H) (r : Rv K F rho om x v)
    (e : I.seqF x z = some (it, z')) (k : ∀ J, z' = z → ItOk K F rho om it J → R J H) : ∃ a, v = .ref a ∧ (((∃ xs, SqL K H a xs) ∧ R (Itl K a) H) ∨ ((∃ xs, SqT K H a xs) ∧ R (Itt K a) H)) := by
  cases r with
  | pure r =>
    cases r with
    | @lst a xs ds h q =>
      cases e
      exact ⟨a, rfl, .inl ⟨⟨xs, SqL.of (Rr.rh.fro _ _ h)⟩, k _ rfl (itl_ok fun B2 F2 rho2 om2 z2 σ2 H2 s p R2 _ _ => ⟨xs, SqL.of (R2.rh.fro _ _ (s _ _ h)), q.mono s p⟩)⟩⟩
    | @scr a xs ds h q =>
      cases e
      exact ⟨a, rfl, .inl ⟨⟨xs, Rr.rh.fro.seq h⟩, k _ rfl (itl_ok fun B2 F2 rho2 om2 z2 σ2 H2 s p R2 _ _ => ⟨xs, R2.rh.fro.seq (s.seq h), q.mono s p⟩)⟩⟩
    | @tup a xs ds h q =>
      cases e
      exact ⟨a, rfl, .inr ⟨⟨xs, SqT.of (Rr.rh.fro _ _ h)⟩, k _ rfl (itt_ok fun B2 F2 rho2 om2 z2 σ2 H2 s p R2 _ _ => ⟨xs, SqT.of (R2.rh.fro _ _ (s _ _ h)), q.mono s p⟩)⟩⟩
    | @kt a xs ds h q =>
      cases e
      exact ⟨a, rfl, .inr ⟨⟨xs, Same.sqt Rr.rh.fro h⟩, k _ rfl (itt_ok fun B2 F2 rho2 om2 z2 σ2 H2 s p R2 _ _ => ⟨xs, Same.sqt R2.rh.fro (Same.sqt s h), q.mono s p⟩)⟩⟩
    | @ref n a h =>
      unfold I.seqF at e
      dsimp only at e
      split at e
      · rename_i b xs hc
        cases e
        obtain ⟨a', ys, hv, q, h9⟩ := cont_ok Rr (.pure (.ref h)) hc
        cases hv
        rcases h9 with ⟨_, h9⟩ | ⟨hb, _⟩
        · refine ⟨a, rfl, .inl ⟨⟨ys, h9⟩, k _ rfl (itl_ok fun B2 F2 rho2 om2 z2 σ2 H2 s p R2 _ ok => ?_)⟩⟩
          obtain ⟨b2, hc2⟩ := it_ok ok rfl
          obtain ⟨a2, ys2, hv2, q2, h10⟩ := cont_ok R2 (.pure (.ref (pre_get p h))) hc2
          cases hv2
          rcases h10 with ⟨_, h10⟩ | ⟨hb, _⟩
          · exact ⟨ys2, h10, q2⟩
          · rw [hb] at hc2
            exact (cont_tup hc2).elim (fun z => nomatch z) fun z => nomatch z
        · rw [hb] at hc
          exact (cont_tup hc).elim (fun z => nomatch z) fun z => nomatch z
      · cases e
    | _ => cases e
  | @own i a h =>
    unfold I.seqF at e
    dsimp only at e
    split at e
    · rename_i b xs hc
      cases e
      obtain ⟨a', ys, hv, q, h9⟩ := cont_ok Rr (.own h) hc
      cases hv
      rcases h9 with ⟨_, h9⟩ | ⟨hb, _⟩
      · refine ⟨a, rfl, .inl ⟨⟨ys, h9⟩, k _ rfl (itl_ok fun B2 F2 rho2 om2 z2 σ2 H2 s p R2 ho ok => ?_)⟩⟩
        obtain ⟨b2, hc2⟩ := it_ok ok rfl
        have ho : om2 = om := by
          rcases ho with ho | ho
          · exact ho
          · exact absurd rfl (ho i)
        obtain ⟨a2, ys2, hv2, q2, h10⟩ := cont_ok R2 (.own (by rw [ho]; exact h)) hc2
        cases hv2
        rcases h10 with ⟨_, h10⟩ | ⟨hb, _⟩
        · exact ⟨ys2, h10, q2⟩
        · rw [hb] at hc2
          exact (cont_tup hc2).elim (fun z => nomatch z) fun z => nomatch z
      · rw [hb] at hc
        exact (cont_tup hc).elim (fun z => nomatch z) fun z => nomatch z
    · cases e
theorem mi_seqC {l : Expr} {m : M D} (hl : PE X l (Te (kx X Tb) m)) : PI X tg l (Ti (kx X Tb) (I.seqC m)) := by
  refine pi_imp (pi_seq hl) fun σ H R ⟨B, F, rho, om, z, Rr, it, z', e, k⟩ => ?_
  obtain ⟨x, z1, e1, e2⟩ := bnd_some e
  refine ⟨B, F, rho, om, z, Rr, x, z1, e1, fun F1 rho1 H1 v s1 p1 R1 r1 => ?_⟩
  exact seq_at R1 r1 e2 fun J ez ok => k F1 rho1 H1 J s1 p1 (by rw [ez]; exact R1) ok
theorem mi_seq {l : Expr} {m : M D} (hl : PE X l (Te (kx X Tb) m)) : PI X tg l (Ti (kx X Tb) (I.seq m)) := by
  refine pi_imp (mi_seqC hl) fun σ H R ⟨B, F, rho, om, z, Rr, it, z', e, k⟩ => ?_
  refine ⟨B, F, rho, om, z, Rr, it, z', ?_, k⟩
  obtain ⟨x, z1, e1, e2⟩ := bnd_some e
  unfold I.seqC bnd
  rw [e1]
  show I.seqF x z1 = some (it, z')
  cases x <;> first | exact e2 | cases e2
theorem seq_noOwn {m : M D} : noOwn (I.seq m) := by
  intro z it z' j h
  obtain ⟨x, z1, e1, e2⟩ := bnd_some h
  intro q
  cases x <;> try (cases e2; done)
  · cases e2; cases q
  · cases e2; cases q
  · cases e2; cases q
  · cases e2; cases q
  · dsimp only at e2
    split at e2
    · cases e2; cases q
    · cases e2
theorem irng_get {lo : Int} {n i : Nat} {d : D} (h : (I.irng lo n)[i]? = some d) : i < n ∧ d = .int (lo + (i : Nat)) := by
  unfold I.irng at h
  rw [List.getElem?_map] at h
  cases q : (List.range n)[i]? with
  | none => rw [q] at h; cases h
  | some j =>
    rw [q] at h
    cases h
    obtain ⟨h1, h2⟩ := List.getElem?_eq_some_iff.mp q
    rw [List.getElem_range] at h2
    subst h2
    exact ⟨by simpa using h1, rfl⟩
theorem irng_len {lo : Int} {n : Nat} : (I.irng lo n).length = n := by
  unfold I.irng
  rw [List.length_map, List.length_range]
theorem itr_ok {K : Kx} {F : Hp} {rho : List Addr} {om : Nat → Option Addr} {lo : Int} {n : Nat} : ItOk K F rho om ⟨I.irng lo n, none⟩ (Itr lo n) := by
  intro B2 F2 rho2 om2 z2 σ2 H2 s p R ho hk
  refine ⟨fun i hi => ?_, fun i d hd => ?_⟩
  · rw [irng_len] at hi
    exact hi
  · obtain ⟨h1, rfl⟩ := irng_get hd
    refine ⟨h1, fun x H3 ⟨e, y⟩ => ⟨e, F2, Same.refl _, fun _ _ _ _ n => n, R, ?_⟩⟩
    rw [y]
    exact .int _
theorem mi_rng1 {a : Expr} {m : M D} {p pos : Pos} (hg : Gl X "range") (hm : X.mg "range" = none) (ha : PE X a (Te (kx X Tb) m)) (hs : starEach [a] X.env = [(false, eval a X.env)] := by rfl) (he : starEach [a] X.env = (false, eval a X.env) :: starEach [] X.env := by rfl) : PI X tg (.Call (.Name "range" p) [a] [] pos) (Ti (kx X Tb) (I.rng1 m)) := by
  refine pi_imp (pi_range1 hg hm (pa_cons ha pa_nil he) hs) fun σ H R ⟨B, F, rho, om, z, Rr, it, z', e, k⟩ => ?_
  obtain ⟨x, z1, e1, e2⟩ := bnd_some e
  refine ⟨B, F, rho, om, z, Rr, x, z1, e1, fun F1 rho1 H1 v s1 p1 R1 r1 => ?_⟩
  cases x <;> try (cases e2; done)
  obtain rfl := rv_int r1
  dsimp only at e2
  split at e2
  · rename_i n hn
    cases e2
    exact ⟨_, rfl, hn.1, hn.2, k F1 rho1 H1 _ s1 p1 R1 itr_ok⟩
  · cases e2
theorem mi_rng2 {a b : Expr} {m n : M D} {p pos : Pos} (hg : Gl X "range") (hm : X.mg "range" = none) (ha : PE X a (Te (kx X Tb) m)) (hb : PE X b (Te (kx X Tb) n)) (hs : starEach [a, b] X.env = [(false, eval a X.env), (false, eval b X.env)] := by rfl) (hs2 : starEach [b] X.env = [(false, eval b X.env)] := by rfl)
    (he : starEach [a, b] X.env = (false, eval a X.env) :: starEach [b] X.env := by rfl) (he2 : starEach [b] X.env = (false, eval b X.env) :: starEach [] X.env := by rfl) : PI X tg (.Call (.Name "range" p) [a, b] [] pos) (Ti (kx X Tb) (I.rng2 m n)) := by
  refine pi_imp (pi_range2 hg hm (pa_cons ha (pa_cons hb pa_nil he2) he) hs hs2) fun σ H R ⟨B, F, rho, om, z, Rr, it, z', e, k⟩ => ?_
  obtain ⟨x, z1, e1, e2⟩ := bnd_some e
  refine ⟨B, F, rho, om, z, Rr, x, z1, e1, fun F1 rho1 H1 v s1 p1 R1 r1 => ?_⟩
  obtain ⟨y, z2, e3, e4⟩ := bnd_some e2
  refine ⟨B, F1, rho1, om, z1, R1, y, z2, e3, fun F2 rho2 H2 w s2 p2 R2 r2 => ?_⟩
  cases x <;> try (cases e4; done)
  cases y <;> try (cases e4; done)
  obtain rfl := rv_int r1
  obtain rfl := rv_int r2
  dsimp only at e4
  split at e4
  · rename_i i j hn
    cases e4
    exact ⟨_, _, rfl, ⟨hn.1.1, hn.1.2, hn.2.1, hn.2.2⟩, k F2 rho2 H2 _ (s1.trans s2) (p1.trans p2) R2 itr_ok⟩
  · cases e4
theorem rng1_noOwn {m : M D} : noOwn (I.rng1 m) := by
  intro z it z' j h
  obtain ⟨x, z1, e1, e2⟩ := bnd_some h
  intro q
  cases x <;> try (cases e2; done)
  dsimp only at e2
  split at e2
  · cases e2; cases q
  · cases e2
theorem rng2_noOwn {m n : M D} : noOwn (I.rng2 m n) := by
  intro z it z' j h
  obtain ⟨x, z1, e1, e2⟩ := bnd_some h
  obtain ⟨y, z2, e3, e4⟩ := bnd_some e2
  intro q
  cases x <;> try (cases e4; done)
  cases y <;> try (cases e4; done)
  dsimp only at e4
  split at e4
  · cases e4; cases q
  · cases e4
end
end Mi

set_option Elab.async false
set_option linter.all false
set_option maxRecDepth 100000
/-! Mi, part F: statements. -/
namespace Mi
open PySem PySem.Spec PyProof.Rows L2

def Post (K : Kx) (B : Bs) (F : Hp) (rho : List Addr) (D : Ends) (z' : Z) : Fl → Prop
  | .nx => ∀ F' rho' om' σ' H', Same F F' → rho <+: rho' → Rl K B F' rho' om' z' σ' H' → D.nx σ' H'
  | .bk => ∀ F' rho' om' σ' H', Same F F' → rho <+: rho' → Rl K B F' rho' om' z' σ' H' → D.bk σ' H'
  | .ct => ∀ F' rho' om' σ' H', Same F F' → rho <+: rho' → Rl K B F' rho' om' z' σ' H' → D.ct σ' H'
  | .rt d => ∀ F' rho' om' σ' H' v, Same F F' → rho <+: rho' → Rl K B F' rho' om' z' σ' H' → Rp K F' rho' d v → D.rt v H'
def GoS (K : Kx) (B : Bs) (F : Hp) (rho : List Addr) (om : Nat → Option Addr) (c : C) (z : Z) (D : Ends) (σ : L2.St) (H : Hp) : Prop :=
  Rl K B F rho om z σ H ∧ ∃ f z', c z = some (f, z') ∧ Post K B F rho D z' f
def Ts (K : Kx) (c : C) : TS := fun D σ H => ∃ B F rho om z, GoS K B F rho om c z D σ H
theorem Post.mono {K : Kx} {B : Bs} {F F1 : Hp} {rho rho1 : List Addr} {D : Ends} {z' : Z} {f : Fl} (s : Same F F1) (p : rho <+: rho1) (h : Post K B F rho D z' f) : Post K B F1 rho1 D z' f := by
  cases f with
  | nx => exact fun F' rho' om' σ' H' s' p' R => h F' rho' om' σ' H' (s.trans s') (p.trans p') R
  | bk => exact fun F' rho' om' σ' H' s' p' R => h F' rho' om' σ' H' (s.trans s') (p.trans p') R
  | ct => exact fun F' rho' om' σ' H' s' p' R => h F' rho' om' σ' H' (s.trans s') (p.trans p') R
  | rt d => exact fun F' rho' om' σ' H' v s' p' R => h F' rho' om' σ' H' v (s.trans s') (p.trans p') R
section
variable {X : Cx} {Tb : List (Addr × Str)}
/-! ### blocks -/
theorem mss_nil : PSs X [] (Ts (kx X Tb) C.skip) := by
  refine pss_imp pss_nil fun D σ H ⟨B, F, rho, om, z, R, f, z', e, k⟩ => ?_
  cases e
  exact k F rho om σ H (Same.refl _) (List.prefix_refl _) R
theorem seq_go {K : Kx} {a b : C} {D : Ends} {σ : L2.St} {H : Hp} (h : Ts K (C.seq a b) D σ H) : Ts K a { D with nx := Ts K b D } σ H := by
  obtain ⟨B, F, rho, om, z, R, f, z', e, k⟩ := h
  unfold C.seq at e
  split at e
  · rename_i z1 h1
    refine ⟨B, F, rho, om, z, R, .nx, z1, h1, fun F' rho' om' σ' H' s p R' => ⟨B, F', rho', om', z1, R', f, z', e, k.mono s p⟩⟩
  · rename_i hn
    refine ⟨B, F, rho, om, z, R, f, z', e, ?_⟩
    cases f with
    | nx => exact absurd e (hn z')
    | _ => exact k
theorem mss_cons {st : Stmt} {rest : List Stmt} {a b : C} (h1 : PS X st (Ts (kx X Tb) a)) (h2 : PSs X rest (Ts (kx X Tb) b)) : PSs X (st :: rest) (Ts (kx X Tb) (C.seq a b)) := pss_imp (pss_cons h1 h2) fun D σ H h => seq_go h
theorem mss_one {st : Stmt} {a : C} (h1 : PS X st (Ts (kx X Tb) a)) : PSs X [st] (Ts (kx X Tb) a) := pss_one h1
/-- a slot's list is laid down, ahead of a statement -/
theorem mss_frz {rest : List Stmt} {b : C} (i : Nat) (h : PSs X rest (Ts (kx X Tb) b)) : PSs X rest (Ts (kx X Tb) (C.seq (C.frz i) b)) := by
  refine pss_imp h fun D σ H ⟨B, F, rho, om, z, R, f, z', e, k⟩ => ?_
  unfold C.seq C.frz at e
  cases hs : z.s[i]? with
  | none =>
    rw [hs] at e
    cases e
  | some x =>
    cases x with
    | own d =>
      cases d with
      | lst ds =>
        rw [hs] at e
        have e : b ⟨z.s.set i (.val (.lst ds)), z.h⟩ = some (f, z') := e
        obtain ⟨a, h1, h2, xs, h3, h4⟩ := R.sl i _ hs
        have f0 := R.freshOwn h1
        have R1 : Rl (kx X Tb) B F rho (omSet om i none) ⟨z.s.set i .no, z.h⟩ σ H := R.forget i
        obtain ⟨R2, s2⟩ := R1.lay f0 h3
        have hσ : σ.set i (some (V.ref a)) = σ := by
          refine List.ext_getElem? fun j => ?_
          by_cases c : j = i
          · subst c
            rw [h2, List.getElem?_set_self (List.getElem?_eq_some_iff.mp h2).1]
          · rw [List.getElem?_set_ne (Ne.symm c)]
        have R3 := R2.setVal i (.lst upd_same (h4.mono s2 (List.prefix_refl _)))
        rw [hσ] at R3
        have ez : (⟨(z.s.set i Sl.no).set i (.val (.lst ds)), z.h⟩ : Z) = ⟨z.s.set i (.val (.lst ds)), z.h⟩ := by rw [List.set_set]
        have R3 : Rl (kx X Tb) B _ rho (omSet (omSet om i none) i none) ⟨(z.s.set i Sl.no).set i (.val (.lst ds)), z.h⟩ σ H := R3
        rw [ez] at R3
        exact ⟨B, _, rho, _, _, R3, f, z', e, k.mono s2 (List.prefix_refl _)⟩
      | _ =>
        rw [hs] at e
        cases e
    | _ =>
      rw [hs] at e
      cases e
/-! ### small statements -/
theorem ms_pass {pos : Pos} : PS X (.Pass pos) (Ts (kx X Tb) C.skip) := by
  refine ps_imp ps_pass fun D σ H ⟨B, F, rho, om, z, R, f, z', e, k⟩ => ?_
  cases e
  exact k F rho om σ H (Same.refl _) (List.prefix_refl _) R
theorem ms_brk {pos : Pos} : PS X (.Break pos) (Ts (kx X Tb) C.brk) := by
  refine ps_imp ps_break fun D σ H ⟨B, F, rho, om, z, R, f, z', e, k⟩ => ?_
  cases e
  exact k F rho om σ H (Same.refl _) (List.prefix_refl _) R
theorem ms_cnt {pos : Pos} : PS X (.Continue pos) (Ts (kx X Tb) C.cnt) := by
  refine ps_imp ps_continue fun D σ H ⟨B, F, rho, om, z, R, f, z', e, k⟩ => ?_
  cases e
  exact k F rho om σ H (Same.refl _) (List.prefix_refl _) R
theorem ms_expr {e : Expr} {m : M D} {pos : Pos} (he : PE X e (Te (kx X Tb) m)) (hs : swapsWith e none pos.line X.env = pure false := by rfl) : PS X (.Expr e pos) (Ts (kx X Tb) (C.drop m)) := by
  refine ps_imp (ps_expr he hs) fun D σ H ⟨B, F, rho, om, z, R, f, z', e, k⟩ => ?_
  obtain ⟨x, z1, e1, e2⟩ := bnd_some e
  cases e2
  exact ⟨B, F, rho, om, z, R, x, _, e1, fun F1 rho1 H1 v s p R1 r1 => k F1 rho1 om σ H1 s p R1⟩
theorem ms_ret {e : Expr} {m : M D} {pos : Pos} (he : PE X e (Te (kx X Tb) m)) : PS X (.Return (some e) pos) (Ts (kx X Tb) (C.ret m)) := by
  refine ps_imp (ps_ret he) fun D σ H ⟨B, F, rho, om, z, R, f, z', e, k⟩ => ?_
  obtain ⟨x, z1, e1, e2⟩ := bnd_some e
  refine ⟨B, F, rho, om, z, R, x, z1, e1, fun F1 rho1 H1 v s p R1 r1 => ?_⟩
  cases r1 with
  | pure r1 =>
    have e2 : some (Fl.rt x, z1) = some (f, z') := by
      cases x <;> first | exact e2 | (cases r1; done)
    cases e2
    exact k F1 rho1 om σ H1 v s p R1 r1
  | @own i a h =>
    try dsimp only at e2
    split at e2
    · rename_i ds hs
      cases e2
      obtain ⟨a', h1, h2, h5⟩ := R1.sl i _ hs
      rw [h] at h1
      cases h1
      obtain ⟨xs, h3, h4⟩ := h5
      have f0 := R1.freshOwn h
      obtain ⟨R2, s2⟩ := (R1.forget i).lay f0 h3
      have r3 : Rp (kx X Tb) (upd F1 a (.lst xs)) rho1 (.lst ds) (.ref a) := .lst upd_same (h4.mono s2 (List.prefix_refl _))
      exact k _ rho1 _ σ H1 _ (s.trans s2) p R2 r3
    · cases e2
/-- a slot's own list goes to the shared heap -/
theorem ms_retS {e : Expr} {m : M D} {pos : Pos} (he : PE X e (Te (kx X Tb) m)) : PS X (.Return (some e) pos) (Ts (kx X Tb) (C.retS m)) := by
  refine ps_imp (ps_ret he) fun D σ H ⟨B, F, rho, om, z, R, f, z', e, k⟩ => ?_
  obtain ⟨x, z1, e1, e2⟩ := bnd_some e
  refine ⟨B, F, rho, om, z, R, x, z1, e1, fun F1 rho1 H1 v s p R1 r1 => ?_⟩
  cases r1 with
  | pure r1 => cases x <;> first | (cases e2; done) | (cases r1; done)
  | @own i a h =>
    dsimp only at e2
    split at e2
    · rename_i ds hs
      cases e2
      obtain ⟨a', h1, h2, h5⟩ := R1.sl i _ hs
      rw [h] at h1
      cases h1
      have f0 := R1.freshOwn h
      obtain ⟨R2, q2⟩ := (R1.forget i).share (d := .lst ds) f0 h5
      exact k F1 _ _ σ H1 _ s (p.trans (List.prefix_append _ _)) R2 (.ref q2)
    · cases e2
theorem ms_retN {pos : Pos} : PS X (.Return none pos) (Ts (kx X Tb) C.retN) := by
  refine ps_imp ps_retN fun D σ H ⟨B, F, rho, om, z, R, f, z', e, k⟩ => ?_
  cases e
  exact k F rho om σ H .non (Same.refl _) (List.prefix_refl _) R .non
theorem ms_if {c : Expr} {a b : List Stmt} {t : M Bool} {ca cb : C} {pos : Pos} (hc : PT X c (Tt (kx X Tb) t)) (ha : PSs X a (Ts (kx X Tb) ca)) (hb : PSs X b (Ts (kx X Tb) cb)) : PS X (.If c a b pos) (Ts (kx X Tb) (C.ite t ca cb)) := by
  refine ps_imp (ps_if hc ha hb) fun D σ H ⟨B, F, rho, om, z, R, f, z', e, k⟩ => ?_
  obtain ⟨x, z1, e1, e2⟩ := bnd_some e
  refine ⟨B, F, rho, om, z, R, x, z1, e1, fun F1 rho1 H1 v s p R1 r1 => ?_⟩
  have r1 : v = x := r1
  subst r1
  cases v with
  | true => exact ⟨B, F1, rho1, om, z1, R1, f, z', e2, k.mono s p⟩
  | false => exact ⟨B, F1, rho1, om, z1, R1, f, z', e2, k.mono s p⟩
/-- name = e -/
theorem ms_set {i : Nat} {x : Str} {e : Expr} {m : M D} {pos pos' : Pos} (hN : X.N.Nodup) (he : PE X e (Te (kx X Tb) m)) (hi : X.N[i]? = some x := by rfl) (hx : Loc X.env.scope x := by first | exact Or.inl rfl | exact Or.inr rfl)
    (hs : swapsWith e (some (.Name x pos')) pos.line X.env = pure false := by rfl) (hf : X.fn x = true ∨ X.env.scope.names.lookup x = some .local := by first | exact .inl rfl | exact .inr rfl) : PS X (.Assign [.Name x pos'] e pos) (Ts (kx X Tb) (C.set i m)) := by
  refine ps_imp (ps_set hN hi hx he hs hf) fun D σ H ⟨B, F, rho, om, z, R, f, z', e, k⟩ => ?_
  obtain ⟨d, z1, e1, e2⟩ := bnd_some e
  refine ⟨B, F, rho, om, z, R, d, z1, e1, fun F1 rho1 H1 v s p R1 r1 => ?_⟩
  try dsimp only at e2
  split at e2
  · rename_i hp
    cases e2
    exact k F1 rho1 _ _ H1 s p (R1.setVal i (r1.of_pure hp))
  · cases e2
/-- name = a new list that the name owns -/
theorem own_go {K : Kx} {i : Nat} {m : M (List D)} {te : TE} (h : ∀ σ H Q, Tf K m σ H Q → te σ H Q) : ∀ D σ H, Ts K (C.own i m) D σ H → tAsg te (gName i) D σ H := by
  rintro D σ H ⟨B, F, rho, om, z, R, f, z', e, k⟩
  obtain ⟨ds, z1, e1, e2⟩ := bnd_some e
  refine h σ H _ ⟨B, F, rho, om, z, R, ds, z1, e1, fun F1 rho1 H1 v s p R1 ⟨a, xs, hv, ha, f0, r1⟩ => ?_⟩
  subst hv
  try dsimp only at e2
  split at e2
  · rename_i hl
    cases e2
    exact k F1 rho1 _ _ H1 s p (R1.setOwn i hl f0 ⟨xs, ha, r1⟩)
  · cases e2
theorem ms_own {i : Nat} {x : Str} {e : Expr} {m : M (List D)} {pos pos' : Pos} (hN : X.N.Nodup) (he : PE X e (Tf (kx X Tb) m)) (hi : X.N[i]? = some x := by rfl) (hx : Loc X.env.scope x := by first | exact Or.inl rfl | exact Or.inr rfl)
    (hs : swapsWith e (some (.Name x pos')) pos.line X.env = pure false := by rfl) (hf : X.fn x = true ∨ X.env.scope.names.lookup x = some .local := by first | exact .inl rfl | exact .inr rfl) : PS X (.Assign [.Name x pos'] e pos) (Ts (kx X Tb) (C.own i m)) :=
  ps_imp (ps_set hN hi hx he hs hf) (own_go fun _ _ _ h => h)
/-- a target = e -/
theorem asg_go {K : Kx} {g : G} {m : M D} {te : TE} (h : ∀ σ H Q, Te K m σ H Q → te σ H Q) : ∀ D σ H, Ts K (C.asg g m) D σ H → tAsg te (Tg K g) D σ H := by
  rintro D σ H ⟨B, F, rho, om, z, R, f, z', e, k⟩
  obtain ⟨d, z1, e1, e2⟩ := bnd_some e
  refine h σ H _ ⟨B, F, rho, om, z, R, d, z1, e1, fun F1 rho1 H1 v s p R1 r1 => ?_⟩
  try dsimp only at e2
  split at e2
  · rename_i hp
    split at e2
    · rename_i z2 hg
      cases e2
      exact ⟨B, F1, rho1, om, z1, d, R1, r1.of_pure hp, z', hg, fun om' σ' _ _ _ R2 => k F1 rho1 om' σ' H1 s p R2⟩
    · cases e2
  · cases e2
theorem ms_asg {tg e : Expr} {m : M D} {g : G} {pos : Pos} (he : PE X e (Te (kx X Tb) m)) (hg : PG X tg (Tg (kx X Tb) g)) (hs : swapsWithSole [tg] e pos.line X.env = pure false := by rfl) (hw : swappedStores [tg] e X.env = pure none := by rfl)
    (h1 : (assignEach [tg] X.env).map (·.2) = [assign tg X.env] := by rfl) : PS X (.Assign [tg] e pos) (Ts (kx X Tb) (C.asg g m)) := ps_imp (ps_asg he hg hs hw h1) (asg_go fun _ _ _ h => h)
/-- x op= e -/
def IpM (X : Cx) (op : Operator) (f : D → D → Z → Option D) : Prop := ∃ r : TIp, PIp X op r ∧ ∀ {Tb : List (Addr × Str)} {B : Bs} {F : Hp} {rho : List Addr} {om : Nat → Option Addr} {z : Z} {σ : L2.St} {H : Hp} {x y : D} {xv yv : V} {d : D}, Rl (kx X Tb) B F rho om z σ H → Rp (kx X Tb) F rho x xv → Rv (kx X Tb) F rho om y yv → f x y z = some d →
    ∀ Q : VK, (∀ v, Rp (kx X Tb) F rho d v → Q v H) → r xv yv H Q
theorem ms_aug {i : Nat} {x : Str} {e : Expr} {m : M D} {op : Operator} {f : D → D → Z → Option D} {pos pos' : Pos} (hN : X.N.Nodup) (ho : IpM X op f) (he : PE X e (Te (kx X Tb) m)) (hi : X.N[i]? = some x := by rfl) (hx : Loc X.env.scope x := by first | exact Or.inl rfl | exact Or.inr rfl)
    (hf : X.fn x = true ∨ X.env.scope.names.lookup x = some .local := by first | exact .inl rfl | exact .inr rfl) : PS X (.AugAssign (.Name x pos') op e pos) (Ts (kx X Tb) (C.aug i f m)) := by
  obtain ⟨r, h1, h2⟩ := ho
  refine ps_imp (ps_aug hN hi hx he h1 hf) fun D σ H ⟨B, F, rho, om, z, R, f, z', e, k⟩ => ?_
  unfold C.aug at e
  split at e
  · rename_i x hx
    obtain ⟨xv, q1, q2⟩ := R.sl i _ hx
    obtain ⟨y, z1, e1, e2⟩ := bnd_some e
    refine ⟨xv, q1, B, F, rho, om, z, R, y, z1, e1, fun F1 rho1 H1 v s p R1 r1 => ?_⟩
    try dsimp only at e2
    split at e2
    · rename_i d hd
      split at e2
      · cases e2
        exact h2 R1 (q2.mono s p) r1 hd _ fun w q => k F1 rho1 _ _ H1 s p (R1.setVal i q)
      · cases e2
    · cases e2
  · cases e
theorem ip_two {K : Kx} {F : Hp} {rho : List Addr} {om : Nat → Option Addr} {z : Z} {x y : D} {xv yv : V} {d : D} {g : Int → Int → Int} {f : D → D → Z → Option D}
    (hf : ∀ x y z, f x y z = match x, y with | .int i, .int j => some (.int (g i j)) | _, _ => none) (rx : Rp K F rho x xv) (ry : Rv K F rho om y yv) (e : f x y z = some d) : ∃ i j, xv = .int i ∧ yv = .int j ∧ d = .int (g i j) := by
  obtain ⟨i, j, rfl, rfl, rfl, rfl, e⟩ := two_ints (g := fun i j => some (.int (g i j))) hf (.pure rx : Rv K F rho om x xv) ry e
  cases e
  exact ⟨i, j, rfl, rfl, rfl⟩
theorem i_add : IpM X .Add O.add := by
  refine ⟨_, ip_add, ?_⟩
  intro Tb B F rho om z σ H x y xv yv d R rx ry e Q k
  obtain ⟨i, j, rfl, rfl, rfl⟩ := ip_two (g := fun i j => i + j) (fun x y z => by cases x <;> cases y <;> rfl) rx ry e
  exact ⟨i, j, rfl, rfl, k _ (.int _)⟩
theorem i_sub : IpM X .Sub O.sub := by
  refine ⟨_, ip_sub, ?_⟩
  intro Tb B F rho om z σ H x y xv yv d R rx ry e Q k
  obtain ⟨i, j, rfl, rfl, rfl⟩ := ip_two (g := fun i j => i - j) (fun x y z => by cases x <;> cases y <;> rfl) rx ry e
  exact ⟨i, j, rfl, rfl, k _ (.int _)⟩
/-- a[i] = e -/
theorem ms_setIx {a i e : Expr} {ma mi me : M D} {p pos : Pos} (he : PE X e (Te (kx X Tb) me)) (ha : PE X a (Te (kx X Tb) ma)) (hi : PE X i (Te (kx X Tb) mi)) (hs : swapsWithSole [.Subscript a i p] e pos.line X.env = pure false := by rfl) (hw : swappedStores [.Subscript a i p] e X.env = pure none := by rfl)
    (h1 : (assignEach [.Subscript a i p] X.env).map (·.2) = [assign (.Subscript a i p) X.env] := by rfl) (hsub : ∀ v, assign (.Subscript a i p) X.env v = (do
      let ov ← holding [v] (eval a X.env)
      let iv ← holding [v, ov] (eval i X.env)
      standAt p
      holding [v, ov, iv] (setItem ov iv v)
      release [v, ov, iv] []) := by intro _; rfl) : PS X (.Assign [.Subscript a i p] e pos) (Ts (kx X Tb) (C.setIx ma mi me)) := by
  refine ps_imp (ps_asg he (pg_sub ha hi set_list hsub) hs hw h1) fun D σ H ⟨B, F, rho, om, z, R, f, z', e, k⟩ => ?_
  obtain ⟨d, z1, e1, e2⟩ := bnd_some e
  refine ⟨B, F, rho, om, z, R, d, z1, e1, fun F1 rho1 H1 v s1 p1 R1 r1 => ?_⟩
  obtain ⟨x, z2, e3, e4⟩ := bnd_some e2
  refine ⟨B, F1, rho1, om, z1, R1, x, z2, e3, fun F2 rho2 H2 w s2 p2 R2 r2 => ?_⟩
  obtain ⟨y, z3, e5, e6⟩ := bnd_some e4
  refine ⟨B, F2, rho2, om, z2, R2, y, z3, e5, fun F3 rho3 H3 u s3 p3 R3 r3 => ?_⟩
  try dsimp only at e6
  split at e6
  · rename_i hp
    have rd : Rp (kx X Tb) F3 rho3 d v := ((r1.of_pure hp).mono s2 p2).mono s3 p3
    have r2' := r2.mono s3 p3
    have fin : ∀ {ds ds' : List Mi.D} {xs : List V} {j : Int}, U.setAt ds j d = some ds' → Rps (kx X Tb) F3 rho3 ds xs → ∃ jj, ixN xs.length j = some jj ∧ Rps (kx X Tb) F3 rho3 ds' (xs.set jj v) := fun {ds ds' xs j} h q => by
      unfold U.setAt at h
      cases hj : ixN ds.length j with
      | none => rw [hj] at h; cases h
      | some jj =>
        rw [hj] at h
        cases h
        exact ⟨jj, by rw [← q.length]; exact hj, q.set rd jj⟩
    split at e6
    · rename_i kk j
      obtain rfl := rv_int r3
      cases r2' with
      | pure r2' => cases r2'
      | own h =>
        split at e6
        · rename_i ds hs
          split at e6
          · rename_i ds' hd
            cases e6
            obtain ⟨a', h1, h5, h2⟩ := R3.sl _ _ hs
            rw [h] at h1
            cases h1
            obtain ⟨ys, h3, h4⟩ := h2
            obtain ⟨jj, hj, q⟩ := fin hd h4
            exact ⟨_, ys, j, jj, rfl, rfl, h3, hj, k F3 rho3 _ _ _ ((s1.trans s2).trans s3) ((p1.trans p2).trans p3) (R3.mutOwn h hs ⟨_, upd_same, q⟩)⟩
          · cases e6
        · cases e6
    · rename_i n j
      obtain rfl := rv_int r3
      cases r2' with
      | pure r2' =>
        cases r2' with
        | ref h =>
          split at e6
          · rename_i ds hs
            split at e6
            · rename_i ds' hd
              cases e6
              obtain ⟨ys, h3, h4⟩ := R3.rh.obs n _ _ hs h
              obtain ⟨jj, hj, q⟩ := fin hd h4
              exact ⟨_, ys, j, jj, rfl, rfl, h3, hj, k F3 rho3 _ _ _ ((s1.trans s2).trans s3) ((p1.trans p2).trans p3) (R3.mutRef h ⟨_, upd_same, q⟩)⟩
            · cases e6
          · cases e6
    · cases e6
  · cases e6

/-! ### loops -/
theorem ms_for {tg iter : Expr} {body : List Stmt} {mi : M It} {g : G} {b : C} {pos : Pos} (hp : PassesOwn (model X.prog X.w) X.A X.env X.xe) (hc : X.calm = true) (hi : PI X tg iter (Ti (kx X Tb) mi)) (hn : noOwn mi) (hg : PG X tg (Tg (kx X Tb) g)) (hb : PSs X body (Ts (kx X Tb) b))
    (hs : ∀ x, foldedSetIterable iter X.env x = pure x := by intro _; rfl) : PS X (.For tg iter body [] pos) (Ts (kx X Tb) (C.for_ mi g b)) := by
  refine ps_imp (ps_for hp hc hi hg hb hs) fun D σ H ⟨B, F, rho, om, z, R, f, z', e, k⟩ => ?_
  obtain ⟨it, z1, e1, e2⟩ := bnd_some e
  refine ⟨B, F, rho, om, z, R, it, z1, e1, fun F1 rho1 H1 J s1 p1 R1 ok => ?_⟩
  have hno := fun j => hn z it z1 j e1
  have k1 := k.mono s1 p1
  refine ⟨fun i m σ H => ∃ F2 rho2 om2 z2, Same F1 F2 ∧ rho1 <+: rho2 ∧ Rl (kx X Tb) B F2 rho2 om2 z2 σ H ∧ m = it.items.length - i ∧ i ≤ it.items.length ∧ C.loop it g b (it.items.drop i) z2 = some (f, z'),
    ⟨_, F1, rho1, om, z1, Same.refl _, List.prefix_refl _, R1, rfl, Nat.zero_le _, e2⟩, ?_⟩
  rintro i m σ2 H2 ⟨F2, rho2, om2, z2, s2, p2, R2, rfl, hi, hl⟩
  cases hd : it.items.drop i with
  | nil =>
    rw [hd] at hl
    have hl : (if it.ok z2 = true then some (Fl.nx, z2) else none) = some (f, z') := hl
    split at hl
    · rename_i hok
      cases hl
      have hi2 : it.items.length ≤ i := by
        have := List.drop_eq_nil_iff.mp hd
        exact this
      obtain ⟨o1, o2⟩ := ok B F2 rho2 om2 _ σ2 H2 s2 p2 R2 (.inr hno) hok
      exact .inl ⟨o1 i hi2, k1 F2 rho2 om2 σ2 H2 s2 p2 R2⟩
    · cases hl
  | cons d ds =>
    rw [hd] at hl
    have hds : it.items.drop (i + 1) = ds := by rw [← List.drop_drop, hd]; rfl
    have hget : it.items[i]? = some d := by
      have := List.getElem?_drop (xs := it.items) (i := i) (j := 0)
      rw [hd] at this
      simpa using this.symm
    have hlt : i < it.items.length := (List.getElem?_eq_some_iff.mp hget).1
    unfold C.loop at hl
    split at hl
    · rename_i hok
      obtain ⟨o1, o2⟩ := ok B F2 rho2 om2 z2 σ2 H2 s2 p2 R2 (.inr hno) hok
      obtain ⟨g1, y1⟩ := o2 i d hget
      split at hl
      · cases hl
      · rename_i z3 hg3
        cases hb4 : b z3 with
        | none =>
          rw [hb4] at hl
          cases hl
        | some q4 =>
          obtain ⟨f4, z4⟩ := q4
          rw [hb4] at hl
          refine .inr ⟨g1, fun σ' H' => ∃ F' rho' om', Same F2 F' ∧ rho2 <+: rho' ∧ Rl (kx X Tb) B F' rho' om' z4 σ' H' ∧ C.loop it g b ds z4 = some (f, z'), ?_, fun x H3 hy => ?_⟩
          · rintro σ' H' ⟨F', rho', om', s', p', R', hl'⟩
            exact ⟨it.items.length - (i + 1), by omega, F', rho', om', z4, s2.trans s', p2.trans p', R', rfl, hlt, by rw [hds]; exact hl'⟩
          · obtain ⟨rfl, F3, s23, _, R23, rx⟩ := y1 x H3 hy
            refine ⟨B, F3, rho2, om2, z2, d, R23, rx, z3, hg3, fun om3 σ3 _ _ _ R3 => ⟨B, F3, rho2, om3, z3, R3, f4, z4, hb4, ?_⟩⟩
            cases f4 with
            | nx => exact fun F' rho' om' σ' H' s' p' R' => ⟨F', rho', om', s23.trans s', p', R', hl⟩
            | ct => exact fun F' rho' om' σ' H' s' p' R' => ⟨F', rho', om', s23.trans s', p', R', hl⟩
            | bk =>
              cases hl
              exact fun F' rho' om' σ' H' s' p' R' => k1 F' rho' om' σ' H' (s2.trans (s23.trans s')) (p2.trans p') R'
            | rt d4 =>
              cases hl
              exact fun F' rho' om' σ' H' v s' p' R' r => k1 F' rho' om' σ' H' v (s2.trans (s23.trans s')) (p2.trans p') R' r
    · cases hl
/-- so many turns -/
def whlF (t : M Bool) (b : C) : Nat → C
  | 0, _ => none
  | n + 1, z => match t z with
    | none => none
    | some (false, z1) => some (.nx, z1)
    | some (true, z1) => match b z1 with
      | none => none
      | some (.nx, z2) => whlF t b n z2
      | some (.ct, z2) => whlF t b n z2
      | some (.bk, z2) => some (.nx, z2)
      | some (.rt d, z2) => some (.rt d, z2)
theorem whl_F {t : M Bool} {b : C} : ∀ z r, C.whl t b z = some r → ∃ n, whlF t b n z = some r := by
  refine C.whl.partial_correctness t b _ fun w ih z r h => ?_
  split at h
  · cases h
  · rename_i z1 ht
    refine ⟨1, ?_⟩
    unfold whlF
    rw [ht]
    exact h
  · rename_i z1 ht
    split at h
    · cases h
    · rename_i z2 hb
      obtain ⟨n, hn⟩ := ih _ _ h
      refine ⟨n + 1, ?_⟩
      unfold whlF
      rw [ht]
      dsimp only
      rw [hb]
      exact hn
    · rename_i z2 hb
      obtain ⟨n, hn⟩ := ih _ _ h
      refine ⟨n + 1, ?_⟩
      unfold whlF
      rw [ht]
      dsimp only
      rw [hb]
      exact hn
    · rename_i z2 hb
      refine ⟨1, ?_⟩
      unfold whlF
      rw [ht]
      dsimp only
      rw [hb]
      exact h
    · rename_i d z2 hb
      refine ⟨1, ?_⟩
      unfold whlF
      rw [ht]
      dsimp only
      rw [hb]
      exact h
theorem ms_whl {c : Expr} {body : List Stmt} {t : M Bool} {b : C} {pos : Pos} (hp : PassesOwn (model X.prog X.w) X.A X.env X.xe) (hc : PT X c (Tt (kx X Tb) t)) (hb : PSs X body (Ts (kx X Tb) b)) : PS X (.While c body [] pos) (Ts (kx X Tb) (C.whl t b)) := by
  refine ps_imp (ps_while hp hc hb) fun D σ H ⟨B, F, rho, om, z, R, f, z', e, k⟩ => ?_
  obtain ⟨n, hn⟩ := whl_F _ _ e
  refine ⟨fun m σ H => ∃ F2 rho2 om2 z2, Same F F2 ∧ rho <+: rho2 ∧ Rl (kx X Tb) B F2 rho2 om2 z2 σ H ∧ whlF t b m z2 = some (f, z'), ⟨n, F, rho, om, z, Same.refl _, List.prefix_refl _, R, hn⟩, ?_⟩
  rintro m σ2 H2 ⟨F2, rho2, om2, z2, s2, p2, R2, hl⟩
  cases m with
  | zero => cases hl
  | succ m =>
    unfold whlF at hl
    cases ht : t z2 with
    | none =>
      rw [ht] at hl
      cases hl
    | some q =>
      obtain ⟨k3, z3⟩ := q
      rw [ht] at hl
      refine ⟨B, F2, rho2, om2, z2, R2, k3, z3, ht, fun F3 rho3 H3 y s3 p3 R3 r3 => ?_⟩
      have r3 : y = k3 := r3
      subst r3
      cases y with
      | false =>
        cases hl
        exact k F3 rho3 _ _ _ (s2.trans s3) (p2.trans p3) R3
      | true =>
        dsimp only at hl
        cases hb4 : b z3 with
        | none =>
          rw [hb4] at hl
          cases hl
        | some q4 =>
          obtain ⟨f4, z4⟩ := q4
          rw [hb4] at hl
          refine ⟨fun σ' H' => ∃ F' rho' om', Same F3 F' ∧ rho3 <+: rho' ∧ Rl (kx X Tb) B F' rho' om' z4 σ' H' ∧ whlF t b m z4 = some (f, z'), ?_, B, F3, rho3, om2, z3, R3, f4, z4, hb4, ?_⟩
          · rintro σ' H' ⟨F', rho', om', s', p', R', hl'⟩
            exact ⟨m, Nat.lt_succ_self m, F', rho', om', z4, (s2.trans s3).trans s', (p2.trans p3).trans p', R', hl'⟩
          · cases f4 with
            | nx => exact fun F' rho' om' σ' H' s' p' R' => ⟨F', rho', om', s', p', R', hl⟩
            | ct => exact fun F' rho' om' σ' H' s' p' R' => ⟨F', rho', om', s', p', R', hl⟩
            | bk =>
              cases hl
              exact fun F' rho' om' σ' H' s' p' R' => k F' rho' om' σ' H' ((s2.trans s3).trans s') ((p2.trans p3).trans p') R'
            | rt d4 =>
              cases hl
              exact fun F' rho' om' σ' H' v s' p' R' r => k F' rho' om' σ' H' v ((s2.trans s3).trans s') ((p2.trans p3).trans p') R' r
end
end Mi

set_option Elab.async false
set_option linter.all false
set_option maxRecDepth 100000
/-! Mi, part G: comprehensions; a def by its body. -/
namespace Mi
open PySem PySem.Spec PyProof.Rows L2

section
variable {K : Kx} {B : Bs} {F F' : Hp} {rho rho' : List Addr} {om om' : Nat → Option Addr} {z z' : Z} {σ σ' : L2.St} {H H' : Hp} {a p : Addr} {d : D} {v : V} {o : HO}
/-- an object of nobody's is changed -/
theorem Rl.mutFresh (R : Rl K B F rho om z σ H) (f : Fresh K B F rho om H p) (hn : NT o := by exact fun _ e => nomatch e) : Rl K B F rho om z σ (upd H p o) ∧ Fresh K B F rho om (upd H p o) p := by
  have nr : ∀ (n : Nat) a, rho[n]? = some a → a ≠ p := fun n a e q => f.r n (by rw [← q]; exact e)
  have no : ∀ (i : Nat) a, om i = some a → a ≠ p := fun i a e q => f.o i (by rw [← q]; exact e)
  refine ⟨⟨R.rh.mono1 (fun _ _ e => e) (Same.upd_out R.rh.fro f.f) (fun n a e => upd_ne (nr n a e)) R.rh.nf (R.rh.tb.mono (fun _ _ e => e) (fun q hq => upd_ne (f.k q hq)) R.rh.tb.nf), R.len, fun i x e => (R.sl i x e).mono (fun _ _ e => e) (List.prefix_refl _) (fun a e => upd_ne (no i a e)) rfl, R.oj, R.orr, R.off,
    fun i a e => by rw [upd_ne (no i a e)]; exact R.oth i a e, fun a u e m => ?_, R.exf, R.exr, R.nF, R.nr, R.no, R.ow, R.to, R.mt⟩, ⟨f.f, f.r, f.o, f.b, ⟨_, upd_same, hn⟩, f.k⟩⟩
  have c : a ≠ p := fun c => by
    subst c
    rcases f.b with h | h
    · exact m h
    · rw [h] at e
      cases e
  rw [upd_ne c]
  exact R.frm a u e m
theorem Rl.wipe1 (R : Rl K B F rho om z σ H) {i : Nat} (h : om i = none) : Rl K B F rho om ⟨z.s.set i .no, z.h⟩ (σ.set i none) H := by
  refine ⟨R.rh, by simp only [List.length_set]; exact R.len, fun j x e => ?_, R.oj, R.orr, R.off, R.oth, R.frm, R.exf, R.exr, R.nF, R.nr, R.no, fun j a e => ?_, R.to, R.mt⟩
  · have e : (z.s.set i .no)[j]? = some x := e
    by_cases c : j = i
    · subst c
      have hl : j < z.s.length := by
        have := (List.getElem?_eq_some_iff.mp e).1
        simpa using this
      rw [List.getElem?_set_self hl] at e
      cases e
      trivial
    · rw [List.getElem?_set_ne (Ne.symm c)] at e
      rw [List.getElem?_set_ne (Ne.symm c)]
      exact R.sl j x e
  · have c : ¬ j = i := fun c => by
      subst c
      rw [h] at e
      cases e
    obtain ⟨d', q⟩ := R.ow j a e
    exact ⟨d', by rw [← q]; exact List.getElem?_set_ne (Ne.symm c)⟩
theorem Rl.wipe (R : Rl K B F rho om z σ H) : ∀ {vs : List Nat}, (∀ v ∈ vs, om v = none) → Rl K B F rho om ⟨N.wipe z.s vs, z.h⟩ (L2.wipe σ vs) H
  | [], _ => R
  | v :: vs, h => (Rl.wipe R (vs := vs) fun w hw => h w (List.mem_cons_of_mem _ hw)).wipe1 (h v List.mem_cons_self)
end
theorem wipe_eq {σ σ2 : L2.St} {vs : List Nat} (hl : σ2.length = σ.length) (h : ∀ j, ¬ j ∈ vs → σ2[j]? = σ[j]?) : L2.wipe σ2 vs = L2.wipe σ vs := by
  have inn : ∀ {τ : L2.St} {vs : List Nat} {j : Nat}, j ∈ vs → j < τ.length → (L2.wipe τ vs)[j]? = some none := by
    intro τ vs
    induction vs with
    | nil => intro j h; cases h
    | cons v vs ih =>
      intro j h hj
      unfold L2.wipe
      by_cases c : v = j
      · subst c
        exact List.getElem?_set_self (by rw [wipe_length]; exact hj)
      · rw [List.getElem?_set_ne c]
        rcases List.mem_cons.mp h with q | q
        · exact absurd q.symm c
        · exact ih q hj
  refine List.ext_getElem? fun j => ?_
  by_cases c : j ∈ vs
  · by_cases hj : j < σ.length
    · rw [inn c hj, inn c (by rw [hl]; exact hj)]
    · rw [List.getElem?_eq_none (by rw [wipe_length]; omega), List.getElem?_eq_none (by rw [wipe_length]; omega)]
  · rw [wipe_out c, wipe_out c]
    exact h j c
theorem rest_out {s0 s : List Sl} : ∀ {vs : List Nat} {j : Nat}, ¬ j ∈ vs → (N.rest s0 s vs)[j]? = s[j]?
  | [], _, _ => rfl
  | v :: vs, j, h => by
    unfold N.rest
    have ih := rest_out (s0 := s0) (s := s) (vs := vs) (j := j) fun q => h (List.mem_cons_of_mem _ q)
    cases s0[v]? with
    | none => exact ih
    | some x =>
      have c : v ≠ j := fun c => h (by rw [c]; exact List.mem_cons_self)
      dsimp only
      rw [List.getElem?_set_ne c]
      exact ih
theorem rest_len {s0 s : List Sl} : ∀ {vs : List Nat}, (N.rest s0 s vs).length = s.length
  | [] => rfl
  | v :: vs => by
    unfold N.rest
    cases s0[v]? with
    | none => exact rest_len
    | some x =>
      dsimp only
      rw [List.length_set]
      exact rest_len
theorem rest_in {s0 s : List Sl} (hl : s0.length = s.length) : ∀ {vs : List Nat} {j : Nat}, j ∈ vs → (N.rest s0 s vs)[j]? = s0[j]?
  | [], _, h => by cases h
  | v :: vs, j, h => by
    unfold N.rest
    by_cases c : v = j
    · subst c
      cases q : s0[v]? with
      | none =>
        dsimp only
        have h1 : s0.length ≤ v := List.getElem?_eq_none_iff.mp q
        exact List.getElem?_eq_none (by rw [rest_len]; omega)
      | some x =>
        have h1 := (List.getElem?_eq_some_iff.mp q).1
        exact List.getElem?_set_self (by rw [rest_len]; omega)
    · have hj : j ∈ vs := by
        rcases List.mem_cons.mp h with q | q
        · exact absurd q.symm c
        · exact q
      cases q : s0[v]? with
      | none => exact rest_in hl hj
      | some x =>
        dsimp only
        rw [List.getElem?_set_ne c]
        exact rest_in hl hj
section
variable {K : Kx} {B : Bs} {F F' : Hp} {rho rho' : List Addr} {om om' : Nat → Option Addr} {z z' : Z} {σ σ' : L2.St} {H H' : Hp}
/-- behind a comprehension the names are what they were -/
theorem Rl.rest {H1 : Hp} {F1 : Hp} {rho1 : List Addr} {z1 : Z} {vs : List Nat} (R1 : Rl K B F1 rho1 om z1 σ H1) (s : Same F1 F) (p : rho1 <+: rho) (R : Rl K B F rho om z (L2.wipe σ vs) H) (hn : ∀ v ∈ vs, om v = none) : Rl K B F rho om ⟨N.rest z1.s z.s vs, z.h⟩ σ H := by
  have hl : z1.s.length = z.s.length := by rw [R1.len, R.len, wipe_length]
  refine ⟨R.rh, by rw [rest_len, ← hl]; exact R1.len, fun j x e => ?_, R.oj, R.orr, R.off, R.oth, R.frm, R.exf, R.exr, R.nF, R.nr, R.no, fun j a e => ?_, R.to, R.mt⟩
  · have e : (N.rest z1.s z.s vs)[j]? = some x := e
    by_cases c : j ∈ vs
    · rw [rest_in hl c] at e
      have q := R1.sl j x e
      cases x with
      | no => trivial
      | val d =>
        obtain ⟨v, h1, h2⟩ := q
        exact ⟨v, h1, h2.mono s p⟩
      | own d =>
        obtain ⟨a, h1, _⟩ := q
        rw [hn j c] at h1
        cases h1
    · rw [rest_out c] at e
      have q := R.sl j x e
      rw [wipe_out c] at q
      exact q
  · have c : ¬ j ∈ vs := fun c => by
      rw [hn j c] at e
      cases e
    obtain ⟨d', q⟩ := R.ow j a e
    exact ⟨d', by rw [← q]; exact rest_out c⟩
end
theorem szl_line : szl ≤ sizeLine := by decide
theorem lc_go {K : Kx} {mi : M It} {g : G} {vs : List Nat} {tt : M Bool} {te : M D} (hw : ∀ w ∈ g.ws, w ∈ vs) : ∀ σ H Q, Tf K (N.comp mi g vs tt te) σ H Q → tLc (Ti K mi) (Tg K g) (Tt K tt) (Te K te) vs σ H Q := by
  rintro σ H Q ⟨B, F, rho, om, z, R, xs, z', e, k⟩
  obtain ⟨it, z1, e1, e2⟩ := bnd_some e
  refine ⟨B, F, rho, om, z, R, it, z1, e1, fun F1 rho1 H1 J s1 p1 R1 ok D hD => ?_⟩
  try dsimp only at e2
  split at e2
  · rename_i hc
    split at e2
    · cases e2
    · rename_i accF zF hloop
      cases e2
      have hn : ∀ v ∈ vs, om v = none := fun v hv => by
        cases q : om v with
        | none => rfl
        | some a =>
          obtain ⟨d, hd⟩ := R1.ow v a q
          have := List.all_eq_true.mp hc.2 v hv
          rw [hd] at this
          cases this
      obtain ⟨R2, f2⟩ := R1.new (o := .lst []) hD
      refine ⟨fun i m H => ∃ F2 rho2 z2 acc accv, Same F1 F2 ∧ rho1 <+: rho2 ∧ Rl K B F2 rho2 om z2 (L2.wipe σ vs) H ∧ Fresh K B F2 rho2 om H D ∧ H D = some (.lst accv) ∧ Rps K F2 rho2 acc accv ∧ m = it.items.length - i ∧ i ≤ it.items.length ∧ acc.length ≤ i ∧ N.loop it g vs tt te (it.items.drop i) acc z2 = some (xs, zF),
        ⟨_, F1, rho1, _, [], [], Same.refl _, List.prefix_refl _, R2.wipe hn, f2, upd_same, .nil, rfl, Nat.zero_le _, Nat.le_refl _, hloop⟩, ?_⟩
      rintro i m H2 ⟨F2, rho2, z2, acc, accv, s2, p2, R2, f2, hD2, ra, rfl, hi, hal, hl⟩
      cases hd : it.items.drop i with
      | nil =>
        rw [hd] at hl
        have hl : (if it.ok z2 = true then some (acc, z2) else none) = some (xs, zF) := hl
        split at hl
        · rename_i hok
          cases hl
          have hi2 : it.items.length ≤ i := List.drop_eq_nil_iff.mp hd
          obtain ⟨o1, o2⟩ := ok B F2 rho2 om _ _ H2 s2 p2 R2 (.inl rfl) hok
          exact .inl ⟨o1 i hi2, k F2 rho2 H2 _ (s1.trans s2) (p1.trans p2) (R1.rest s2 p2 R2 hn) ⟨D, accv, rfl, hD2, f2, ra⟩⟩
        · cases hl
      | cons d ds =>
        rw [hd] at hl
        have hds : it.items.drop (i + 1) = ds := by rw [← List.drop_drop, hd]; rfl
        have hget : it.items[i]? = some d := by
          have := List.getElem?_drop (xs := it.items) (i := i) (j := 0)
          rw [hd] at this
          simpa using this.symm
        have hlt : i < it.items.length := (List.getElem?_eq_some_iff.mp hget).1
        unfold N.loop at hl
        split at hl
        · rename_i hok
          obtain ⟨o1, o2⟩ := ok B F2 rho2 om z2 _ H2 s2 p2 R2 (.inl rfl) hok
          obtain ⟨g1, y1⟩ := o2 i d hget
          split at hl
          · cases hl
          · rename_i zg hg3
            cases ht : tt zg with
            | none =>
              rw [ht] at hl
              cases hl
            | some q4 =>
              obtain ⟨b4, zt⟩ := q4
              rw [ht] at hl
              refine .inr ⟨g1, fun H' => ∃ F3 rho3 z3 acc3 accv3, Same F2 F3 ∧ rho2 <+: rho3 ∧ Rl K B F3 rho3 om z3 (L2.wipe σ vs) H' ∧ Fresh K B F3 rho3 om H' D ∧ H' D = some (.lst accv3) ∧ Rps K F3 rho3 acc3 accv3 ∧ acc3.length ≤ i + 1 ∧ N.loop it g vs tt te ds acc3 z3 = some (xs, zF), ?_, fun x H3 hy => ?_⟩
              · rintro H' ⟨F3, rho3, z3, acc3, accv3, s3, p3, R3, f3, hD3, ra3, hl3, hll⟩
                exact ⟨it.items.length - (i + 1), by omega, F3, rho3, z3, acc3, accv3, s2.trans s3, p2.trans p3, R3, f3, hD3, ra3, rfl, hlt, hl3, by rw [hds]; exact hll⟩
              · obtain ⟨rfl, F2a, s2a, n2a, R2a, rx⟩ := y1 x H3 hy
                have ra := ra.mono s2a (List.prefix_refl _)
                have f2 : Fresh K B F2a rho2 om _ D := ⟨n2a _ _ hD2 (fun _ e => nomatch e) f2.f, f2.r, f2.o, f2.b, f2.t, f2.k⟩
                refine ⟨B, F2a, rho2, om, z2, d, R2a, rx, zg, hg3, fun om' σ' hw' hl' hom Rg => ?_⟩
                have eom : om' = om := by
                  funext j
                  by_cases c : j ∈ g.ws
                  · rw [hn j (hw j c)]
                    cases q : om' j with
                    | none => rfl
                    | some a =>
                      have := hom j a q
                      rw [hn j (hw j c)] at this
                      cases this
                  · exact (hw' j c).1
                subst eom
                have ew : L2.wipe σ' vs = L2.wipe σ vs := by
                  refine wipe_eq (hl'.trans (wipe_length _ _)) fun j c => ?_
                  rw [(hw' j fun q => c (hw j q)).2, wipe_out c]
                refine ⟨ew, _, F2a, rho2, om', zg, Rg.reb, b4, zt, ht, fun F3 rho3 H3 y s3 p3 R3 r3 => ?_⟩
                have r3 : y = b4 := r3
                subst r3
                obtain ⟨f3, hD3⟩ := f2.through R3 fun i h => h
                rw [hD2] at hD3
                have R3b := Rg.back R3
                cases y with
                | true =>
                  refine iteT ?_
                  dsimp only at hl
                  cases hte : te zt with
                  | none =>
                    rw [hte] at hl
                    cases hl
                  | some q5 =>
                    obtain ⟨x5, z5⟩ := q5
                    rw [hte] at hl
                    dsimp only at hl
                    split at hl
                    · rename_i hp5
                      refine ⟨_, F3, rho3, om', zt, R3b.reb, x5, z5, hte, fun F4 rho4 H4 w s4 p4 R4 r4 => ?_⟩
                      obtain ⟨f4, hD4⟩ := f3.through R4 fun i h => h
                      rw [hD3] at hD4
                      have R4b := R3b.back R4
                      have hzl : accv.length < sizeLine := by
                        rw [← ra.length]
                        exact Nat.lt_of_lt_of_le (Nat.lt_of_le_of_lt hal (Nat.lt_of_lt_of_le hlt hc.1)) szl_line
                      refine ⟨accv, hD4, hzl, ?_⟩
                      obtain ⟨R5, f5⟩ := R4b.mutFresh (o := .lst (accv ++ [w])) f4
                      have R6 := R5.wipe hn
                      rw [ew] at R6
                      exact ⟨F4, rho4, _, acc ++ [x5], accv ++ [w], s2a.trans (s3.trans s4), p3.trans p4, R6, f5, upd_same, ((ra.mono s3 p3).mono s4 p4).append (.one (r4.of_pure hp5)), by rw [List.length_append, List.length_singleton]; omega, hl⟩
                    · cases hl
                | false =>
                  refine iteF ?_
                  have R6 := R3b.wipe hn
                  rw [ew] at R6
                  exact ⟨F3, rho3, _, acc, accv, s2a.trans s3, p3, R6, f3, hD3, ra.mono s3 p3, by omega, hl⟩
        · cases hl
  · cases e2
theorem frz_go {K : Kx} {m : M (List D)} : ∀ σ H Q, Te K (E.frz m) σ H Q → Tf K m σ H Q := by
  rintro σ H Q ⟨B, F, rho, om, z, g⟩
  refine (g.bnd.imp fun _ _ H1 _ _ v _ _ _ _ _ ⟨F2, rho2, z2, xs, eg1, s1, p1, ⟨p, vs, hv, hp, f, r1⟩, g1⟩ => ?_).tx (R := rF K)
  subst hv
  obtain ⟨R, d, z4, e, k⟩ := g1
  cases e
  obtain ⟨R3, s3⟩ := R.lay f hp
  exact k _ rho2 _ _ s3 (List.prefix_refl _) R3 (.pure (.lst upd_same (r1.mono s3 (List.prefix_refl _))))
theorem set_go {K : Kx} {i : Nat} {m : M D} {te : TE} (h : ∀ σ H Q, Te K m σ H Q → te σ H Q) : ∀ D σ H, Ts K (C.set i m) D σ H → tAsg te (gName i) D σ H := by
  rintro D σ H ⟨B, F, rho, om, z, R, f, z', e, k⟩
  obtain ⟨d, z1, e1, e2⟩ := bnd_some e
  refine h σ H _ ⟨B, F, rho, om, z, R, d, z1, e1, fun F1 rho1 H1 v s p R1 r1 => ?_⟩
  try dsimp only at e2
  split at e2
  · rename_i hp
    cases e2
    exact k F1 rho1 _ _ H1 s p (R1.setVal i (r1.of_pure hp))
  · cases e2
theorem mts_nil {X : Cx} : PTs X [] (Tt (kx X Tb) (ret true)) := pts_imp pts_nil fun σ H Q ⟨B, F, rho, om, z, g⟩ => g.ret true rfl
theorem mts_one {X : Cx} {c : Expr} {t : M Bool} (h : PT X c (Tt (kx X Tb) t)) : PTs X [c] (Tt (kx X Tb) t) := pts_one h
section
variable {X : Cx} {Tb : List (Addr × Str)} {elt tg iter : Expr} {ifs : List Expr} {scope : Scope} {own : List (Str × Nat)} {pos : Pos} {mi : M It} {g : G} {tt : M Bool} {te : M D}
theorem mf_lc (vs : List Nat) (hc : X.calm = true) (hN : X.N.Nodup) (hi : PI X tg iter (Ti (kx X Tb) mi)) (ok : BlkOk X.N X.env.scope scope own) (hv : own.map (·.2) = vs)
    (hg : ∀ (s : Shared) (H : Hp) (C : Addr) (cl : List (Str × Addr)) (fp : List Addr), PG (X.blk s H scope (compEnvC scope cl C X.env) fp) tg (Tg (kx X Tb) g)) (ht : ∀ (s : Shared) (H : Hp) (C : Addr) (cl : List (Str × Addr)) (fp : List Addr), PTs (X.blk s H scope (compEnvC scope cl C X.env) fp) ifs (Tt (kx X Tb) tt))
    (he : ∀ (s : Shared) (H : Hp) (C : Addr) (cl : List (Str × Addr)) (fp : List Addr), PE (X.blk s H scope (compEnvC scope cl C X.env) fp) elt (Te (kx X Tb) te)) (hw : ∀ w ∈ g.ws, w ∈ vs) (hs : ∀ x, foldedSetIterable iter X.env x = pure x := by intro _; rfl) :
    PE X (.ListComp elt [⟨tg, iter, ifs, 0⟩] scope pos) (Tf (kx X Tb) (N.comp mi g vs tt te)) := by
  subst hv
  exact pe_imp (pe_lc hc hN hi ok hg ht he hs) (lc_go hw)
/-- name = [..], the name a local: the name owns the list; the list is laid down -/
theorem ms_ownLc {i : Nat} {y : Str} {py spos : Pos} (vs : List Nat) (hc : X.calm = true) (hN : X.N.Nodup) (hy : X.N[i]? = some y) (hyl : X.env.scope.names.lookup y = some .local)
    (hsw : swapsWith (.ListComp elt [⟨tg, iter, ifs, 0⟩] scope pos) (some (.Name y py)) spos.line X.env = pure true) (hi : PI X tg iter (Ti (kx X Tb) mi)) (ok : BlkOk X.N X.env.scope scope own) (hv : own.map (·.2) = vs)
    (hg : ∀ (s : Shared) (H : Hp) (C : Addr) (cl : List (Str × Addr)) (fp : List Addr), PG (X.blk s H scope (compEnvC scope cl C X.env) fp) tg (Tg (kx X Tb) g)) (ht : ∀ (s : Shared) (H : Hp) (C : Addr) (cl : List (Str × Addr)) (fp : List Addr), PTs (X.blk s H scope (compEnvC scope cl C X.env) fp) ifs (Tt (kx X Tb) tt))
    (he : ∀ (s : Shared) (H : Hp) (C : Addr) (cl : List (Str × Addr)) (fp : List Addr), PE (X.blk s H scope (compEnvC scope cl C X.env) fp) elt (Te (kx X Tb) te)) (hw : ∀ w ∈ g.ws, w ∈ vs) (hs : ∀ x, foldedSetIterable iter X.env x = pure x := by intro _; rfl) :
    PS X (.Assign [.Name y py] (.ListComp elt [⟨tg, iter, ifs, 0⟩] scope pos) spos) (Ts (kx X Tb) (C.own i (N.comp mi g vs tt te))) := by
  subst hv
  exact ps_imp (ps_setLc hc hN hy hyl hsw hi ok hg ht he hs) (own_go (lc_go hw))
theorem ms_frzLc {i : Nat} {y : Str} {py spos : Pos} (vs : List Nat) (hc : X.calm = true) (hN : X.N.Nodup) (hy : X.N[i]? = some y) (hyl : X.env.scope.names.lookup y = some .local)
    (hsw : swapsWith (.ListComp elt [⟨tg, iter, ifs, 0⟩] scope pos) (some (.Name y py)) spos.line X.env = pure true) (hi : PI X tg iter (Ti (kx X Tb) mi)) (ok : BlkOk X.N X.env.scope scope own) (hv : own.map (·.2) = vs)
    (hg : ∀ (s : Shared) (H : Hp) (C : Addr) (cl : List (Str × Addr)) (fp : List Addr), PG (X.blk s H scope (compEnvC scope cl C X.env) fp) tg (Tg (kx X Tb) g)) (ht : ∀ (s : Shared) (H : Hp) (C : Addr) (cl : List (Str × Addr)) (fp : List Addr), PTs (X.blk s H scope (compEnvC scope cl C X.env) fp) ifs (Tt (kx X Tb) tt))
    (he : ∀ (s : Shared) (H : Hp) (C : Addr) (cl : List (Str × Addr)) (fp : List Addr), PE (X.blk s H scope (compEnvC scope cl C X.env) fp) elt (Te (kx X Tb) te)) (hw : ∀ w ∈ g.ws, w ∈ vs) (hs : ∀ x, foldedSetIterable iter X.env x = pure x := by intro _; rfl) :
    PS X (.Assign [.Name y py] (.ListComp elt [⟨tg, iter, ifs, 0⟩] scope pos) spos) (Ts (kx X Tb) (C.set i (E.frz (N.comp mi g vs tt te)))) := by
  subst hv
  exact ps_imp (ps_setLc hc hN hy hyl hsw hi ok hg ht he hs) (set_go fun σ H Q h => lc_go hw σ H Q (frz_go σ H Q h))
end

/-! ### a def by its body -/
theorem fn_body {K : Kx} {sc : Scope} {N ps : List Str} {b : C} {vs : List V} {H : Hp} {Q : VK} {E : XK} (S : FnScope N ps sc) (h : spM ps.length K (fn N.length ps.length b) vs H Q E) : Ts K b { nx := fun _ H' => Q .non H', rt := Q } (start N vs) H := by
  obtain ⟨hl, F0, rho, h0, ds, rh, rp, d, h', e, kk⟩ := h
  have hN : ps.length ≤ N.length := by
    have := congrArg List.length S.pre
    rw [List.length_take] at this
    omega
  have R0 := Rl.begin (N := N) rh rp (by omega)
  unfold fn at e
  split at e
  · cases hb2 : b ⟨slots N.length ds, h0⟩ with
    | none =>
      rw [hb2] at e
      cases e
    | some q =>
      obtain ⟨f1, z1⟩ := q
      rw [hb2] at e
      refine ⟨_, F0, rho, _, _, R0, f1, z1, hb2, ?_⟩
      have fin : ∀ {F' rho' om' σ' H' d v}, Rl K ⟨H, F0, rho, fun a => (∃ n : Nat, rho[n]? = some a) ∨ ∃ p ∈ K.tb, p.1 = a⟩ F' rho' om' z1 σ' H' → Rp K F' rho' d v → some (d, z1.h) = some ((d : D), h') → (∀ (F' : Hp) (rho' : List Addr) (H' : Hp) (v : V), Same F0 F' → rho <+: rho' → Rh K F' rho' h' H' → (∀ a o, H a = some o → (∀ n : Nat, ¬ rho[n]? = some a) → (∀ p ∈ K.tb, ¬ p.1 = a) → H' a = some o) →
          (∀ a o, H a = some o → NT o → F0 a = none → (∀ n : Nat, ¬ rho[n]? = some a) → F' a = none) → (∀ (n : Nat) a, rho'[n]? = some a → (∃ m : Nat, rho[m]? = some a) ∨ H a = none) → Rp K F' rho' d v → Q v H') → Q v H' := by
        intro F' rho' om' σ' H' d v R' r e kk
        cases e
        exact kk F' rho' H' v R'.exf R'.exr R'.rh (fun a o h1 h2 h3 => R'.frm a o h1 fun q => q.elim (fun ⟨n, q⟩ => h2 n q) fun ⟨p, hp, q⟩ => h3 p hp q) (fun a o h1 nt h2 h3 => by
            by_cases c : ∃ p ∈ K.tb, p.1 = a
            · obtain ⟨p, hp, rfl⟩ := c
              exact R'.rh.tb.nf p hp
            · exact R'.nF a o h1 nt h2 fun q => q.elim (fun ⟨n, q⟩ => h3 n q) c) (fun n a q => by
            rcases R'.nr n a q with (h | ⟨p, hp, rfl⟩) | h
            · exact .inl h
            · exact absurd q (R'.rh.tr p hp n)
            · exact .inr h) r
      cases f1 with
      | nx =>
        cases e
        exact fun F' rho' om' σ' H' s p R' => fin R' .non rfl kk
      | rt d' =>
        cases e
        exact fun F' rho' om' σ' H' v s p R' r => fin R' r rfl kk
      | bk => cases e
      | ct => cases e
  · cases e
theorem fn_ok {P : Program} {w : World} {K : Kx} {mg : Str → Option Value} {base : Heap} {x qual : Str} {st : Stmt} {f : Addr} {fd : FuncData} {N ps : List Str} {k n kk : Nat} {b : C} (F : Fun K x qual st f fd) (S : FnScope N ps (defScope st)) (hn : N.length = n) (hk : ps.length = kk)
    (hb : ∀ (cdv : Value) (A : Around) (outer : List Env) (s : Shared) (H : Hp) (E : XK), Room k (A.deeper (envOfC qual (defScope st) s.heap.objs.size f cdv)) → PSs (cxOf CX0 P w K mg base N qual (defScope st) f cdv A outer s H E).nox (defBody st) (Ts K b)) :
    FnOk P w K mg base CX0 (k + 1) f fd ps (spM kk K (fn n kk b)) := by
  subst hn hk
  refine F.ok S (fun vs H Q E h => h.1) fun cdv A outer s H vs Q E hr h => ⟨_, hb cdv A outer s H E hr, ?_⟩
  exact fn_body S h
end Mi

set_option Elab.async false
set_option linter.all false
set_option maxRecDepth 100000
/-! Mi, part H: the end of a law's row. -/
namespace Mi
open PySem PySem.Spec PyProof.Rows L2

theorem start_rh {K : PySem.W.Frag} {H : Hp} : Rh ⟨K, []⟩ H [] [] H := ⟨Same.refl H, rfl, (fun _ _ _ h => by simp at h), (fun _ _ _ h => by simp at h), (fun _ _ h => by simp at h), ⟨(fun _ h => nomatch h), (fun _ h => nomatch h), fun _ h => nomatch h⟩, fun _ h => nomatch h⟩
theorem walk {l : PySem.W.OpenLaw} {k : Nat} {q : Program} {loose : List Str} {XP : (Str → Option Value) → Heap → Prop} {YP : World → Heap → Prop} {d : DefRec} {K : Params → PySem.W.Frag} {x : Str} {mf : Fn} (hn : l.most = some 63) (hdf : d.params.defaults = []) (hr : Room k callerA)
    (hY : ∀ (w : World) (h : Heap), YP w h → (K w.params).In h)
    (F : ∀ (w : World) (mg : Str → Option Value) (fa : Addr) (h : Heap), (K w.params).In h → h.Ns mainGlobals mg → mg d.name = some (.ref fa) →
      ∃ fd : FuncData, (∀ (s : Shared) (u : Value), BindsTo s fd ⟨[u], []⟩ [(x, u)]) ∧ ∀ base : Heap, (K w.params).In base → base.Ns mainGlobals mg → FnOk l.prog w (K w.params) mg base CX0 k fa fd [x] (spM 1 ⟨K w.params, []⟩ mf))
    (law : ∀ ns : List Int, ns.length ≤ 63 → ∃ h', mf [.scr (ns.map D.int)] [] = some (.bl true, h')) : PySem.W.WalkO q loose XP YP l.row.toRowW d [] (fun f vs => PySem.call f vs) :=
  L2.walk_of (n := 63) (k := k) (x := x) (CX := fun _ => CX0) (sp := fun w => spM 1 ⟨K w.params, []⟩ mf) hn (by decide) hdf hr hY F (fun w H a ns hl _ hS => by
    obtain ⟨h', e⟩ := law ns hl
    exact ⟨rfl, H, [], [], [.scr (ns.map D.int)], start_rh, .one (.scr hS (.ints ns)), _, h', e, fun F' rho' H' v _ _ _ _ _ _ r => by cases r; rfl⟩) fun _ _ _ _ _ z => z
end Mi

set_option Elab.async false
set_option linter.all false
set_option maxRecDepth 100000
/-! Mi, part V: how a meaning is worked out, rule by rule. -/
namespace Mi
open PySem PySem.Spec PyProof.Rows L2

/-! ### sizes -/
def Smn (n : Nat) (i : Int) : Prop := i.natAbs < 2 ^ n
theorem Smn.up {n : Nat} {i : Int} (h : Smn n i) (hn : n ≤ bigN) : smI i := Nat.lt_of_lt_of_le h (Nat.pow_le_pow_right (by decide) hn)
theorem Smn.mono {n m : Nat} {i : Int} (h : Smn n i) (hn : n ≤ m) : Smn m i := Nat.lt_of_lt_of_le h (Nat.pow_le_pow_right (by decide) hn)
theorem Smn.mul {n m : Nat} {i j : Int} (h : Smn n i) (h2 : Smn m j) : Smn (n + m) (i * j) := wide_lt h h2
theorem Smn.add {n m : Nat} {i j : Int} (h : Smn n i) (h2 : Smn m j) : Smn (max n m + 1) (i + j) := by
  have a := h.mono (Nat.le_max_left n m)
  have b := h2.mono (Nat.le_max_right n m)
  unfold Smn at *
  rw [Nat.pow_succ]
  omega
theorem Smn.sub {n m : Nat} {i j : Int} (h : Smn n i) (h2 : Smn m j) : Smn (max n m + 1) (i - j) := by
  have a := h.mono (Nat.le_max_left n m)
  have b := h2.mono (Nat.le_max_right n m)
  unfold Smn at *
  rw [Nat.pow_succ]
  omega
theorem Smn.neg {n : Nat} {i : Int} (h : Smn n i) : Smn n (-i) := by
  unfold Smn at *
  omega
theorem Smn.of {i : Int} (h : -9223372036854775808 ≤ i ∧ i ≤ 9223372036854775807) : Smn 64 i := by
  unfold Smn
  omega
theorem Smn.nat {n : Nat} (h : n < 2 ^ 64) : Smn 64 (OfNat.ofNat n : Int) := by
  unfold Smn
  exact h
theorem Smn.ite {n m : Nat} {i j : Int} {c : Prop} [Decidable c] (h : Smn n i) (h2 : Smn m j) : Smn (max n m) (if c then i else j) := by
  split
  · exact h.mono (Nat.le_max_left _ _)
  · exact h2.mono (Nat.le_max_right _ _)
theorem Smn.div {n : Nat} {i j : Int} (h : Smn n i) (hj : 0 < j) : Smn n (i / j) := by
  unfold Smn at *
  refine Nat.lt_of_le_of_lt ?_ h
  have h1 := Int.natAbs_ediv_le_natAbs i j
  exact h1
theorem Smn.mod {n : Nat} {i j : Int} (h : Smn n j) (hj : 0 < j) : Smn n (i % j) := by
  unfold Smn at *
  have h1 := Int.emod_nonneg i (show j ≠ 0 by omega)
  have h2 := Int.emod_lt_of_pos i hj
  omega

/-! ### rules -/
section
variable {z z1 z2 z3 : Z} {a b c : M D} {x y w d : D} {i j k : Int} {p q : Bool} {t u : M Bool} {s : List Sl} {h h' : List D}
end
def isNon : D → Bool
  | .non => true
  | _ => false
def noScr : D → Bool
  | .scr _ => false
  | _ => true
def itemsOf : D → Option (List D)
  | .lst ys => some ys
  | .tup ys => some ys
  | .scr ys => some ys
  | _ => none
section
variable {z z1 z2 z3 : Z} {a b c : M D} {x y w d : D} {i j k : Int} {p q : Bool} {t u : M Bool} {s : List Sl} {h h' : List D}
theorem ev_var {n : Nat} (e : z.s[n]? = some (.val d)) : E.var n z = some (d, z) := by
  unfold E.var
  rw [e]
theorem ev_varO {n : Nat} (e : z.s[n]? = some (.own d)) : E.var n z = some (.own n, z) := by
  unfold E.var
  rw [e]
theorem ev_c : E.c d z = some (d, z) := rfl
theorem bnd_of {α β : Type} {m : M α} {f : α → M β} {v : α} (h : m z = some (v, z1)) : bnd m f z = f v z1 := by
  unfold bnd
  rw [h]
theorem ev_op {f : D → D → Z → Option D} (h1 : a z = some (x, z1)) (h2 : b z1 = some (y, z2)) (h3 : f x y z2 = some d) : E.op f a b z = some (d, z2) := by
  unfold E.op
  rw [bnd_of h1, bnd_of h2, h3]
theorem ev_un {f : D → Z → Option D} (h1 : a z = some (x, z1)) (h3 : f x z1 = some d) : E.un f a z = some (d, z1) := by
  unfold E.un
  rw [bnd_of h1, h3]
theorem ev_add (h1 : a z = some (.int i, z1)) (h2 : b z1 = some (.int j, z2)) : E.op O.add a b z = some (.int (i + j), z2) := ev_op h1 h2 rfl
theorem ev_sub (h1 : a z = some (.int i, z1)) (h2 : b z1 = some (.int j, z2)) : E.op O.sub a b z = some (.int (i - j), z2) := ev_op h1 h2 rfl
theorem mul_v (hi : smI i) (hj : smI j) : O.mul (.int i) (.int j) z = some (.int (i * j)) := by
  unfold O.mul
  exact if_pos ⟨hi, hj⟩
theorem div_v (hi : 0 < j) (hj : smI j) : O.div (.int i) (.int j) z = some (.int (i / j)) := by
  unfold O.div
  exact if_pos ⟨hi, hj⟩
theorem mod_v (hi : 0 < j) : O.mod (.int i) (.int j) z = some (.int (i % j)) := by
  unfold O.mod
  exact if_pos hi
theorem ev_mul {n m : Nat} (h1 : a z = some (.int i, z1)) (h2 : b z1 = some (.int j, z2)) (hi : Smn n i) (hj : Smn m j) (hn : n ≤ bigN) (hm : m ≤ bigN) : E.op O.mul a b z = some (.int (i * j), z2) := ev_op h1 h2 (mul_v (hi.up hn) (hj.up hm))
theorem ev_div {m : Nat} (h1 : a z = some (.int i, z1)) (h2 : b z1 = some (.int j, z2)) (hi : 0 < j) (hj : Smn m j) (hm : m ≤ bigN) : E.op O.div a b z = some (.int (i / j), z2) := ev_op h1 h2 (div_v hi (hj.up hm))
theorem ev_mod (h1 : a z = some (.int i, z1)) (h2 : b z1 = some (.int j, z2)) (hi : 0 < j) : E.op O.mod a b z = some (.int (i % j), z2) := ev_op h1 h2 (mod_v hi)
theorem ev_neg (h1 : a z = some (.int i, z1)) : E.un O.neg a z = some (.int (-i), z1) := ev_un h1 rfl
theorem ev_lt (h1 : a z = some (.int i, z1)) (h2 : b z1 = some (.int j, z2)) : E.op O.lt a b z = some (.bl (decide (i < j)), z2) := ev_op h1 h2 rfl
theorem ev_le (h1 : a z = some (.int i, z1)) (h2 : b z1 = some (.int j, z2)) : E.op O.le a b z = some (.bl (decide (i ≤ j)), z2) := ev_op h1 h2 rfl
theorem ev_gt (h1 : a z = some (.int i, z1)) (h2 : b z1 = some (.int j, z2)) : E.op O.gt a b z = some (.bl (decide (j < i)), z2) := ev_op h1 h2 rfl
theorem ev_ge (h1 : a z = some (.int i, z1)) (h2 : b z1 = some (.int j, z2)) : E.op O.ge a b z = some (.bl (decide (j ≤ i)), z2) := ev_op h1 h2 rfl
theorem eqP_int : O.eqP (.int i) (.int j) z = some (decide (i = j)) := by
  show (if True ∧ True then some (i == j) else none) = _
  rw [if_pos ⟨trivial, trivial⟩, Bool.beq_eq_decide_eq]
theorem ev_eq {kk : Bool} (h1 : a z = some (x, z1)) (h2 : b z1 = some (y, z2)) (h3 : O.eqP x y z2 = some kk) : E.op O.eq a b z = some (.bl kk, z2) := ev_op h1 h2 (by unfold O.eq; rw [h3]; rfl)
theorem ev_ne {kk : Bool} (h1 : a z = some (x, z1)) (h2 : b z1 = some (y, z2)) (h3 : O.eqP x y z2 = some kk) : E.op O.ne a b z = some (.bl (!kk), z2) := ev_op h1 h2 (by unfold O.ne; rw [h3]; rfl)
theorem ev_eqI (h1 : a z = some (.int i, z1)) (h2 : b z1 = some (.int j, z2)) : E.op O.eq a b z = some (.bl (decide (i = j)), z2) := ev_eq h1 h2 eqP_int
theorem ev_neI (h1 : a z = some (.int i, z1)) (h2 : b z1 = some (.int j, z2)) : E.op O.ne a b z = some (.bl (!decide (i = j)), z2) := ev_ne h1 h2 eqP_int
theorem ev_ix {tt : Bool} {ds : List D} (h1 : a z = some (x, z1)) (h2 : b z1 = some (.int i, z2)) (h3 : cont x z2 = some (tt, ds)) (h4 : atI ds i = some d) : E.op O.ix a b z = some (d, z2) := ev_op h1 h2 (by unfold O.ix; rw [h3]; exact h4)
theorem ev_isN (h1 : a z = some (x, z1)) {kk : Bool} (h2 : isNon x = kk) : E.isN a z = some (.bl kk, z1) := by
  unfold E.isN
  rw [bnd_of h1, ← h2]
  cases x <;> rfl
theorem ev_notN (h1 : a z = some (x, z1)) {kk : Bool} (h2 : (!isNon x) = kk) : E.notN a z = some (.bl kk, z1) := by
  unfold E.notN
  rw [bnd_of h1, ← h2]
  cases x <;> rfl
theorem ev_args0 : E.args [] z = some ([], z) := rfl
theorem ev_args {as : List (M D)} {xs : List D} (h1 : a z = some (x, z1)) (h2 : E.args as z1 = some (xs, z2)) (hp : isPure x = true) : E.args (a :: as) z = some (x :: xs, z2) := by
  unfold E.args
  rw [bnd_of h1, bnd_of h2, if_pos hp]
  rfl
theorem ev_tup {as : List (M D)} {xs : List D} (h1 : E.args as z = some (xs, z1)) : E.tup as z = some (.tup xs, z1) := by
  unfold E.tup
  rw [bnd_of h1]
  rfl
theorem ev_frz {m : M (List D)} {xs : List D} (h1 : m z = some (xs, z1)) : E.frz m z = some (.lst xs, z1) := by
  unfold E.frz
  rw [bnd_of h1]
  rfl
theorem ev_shr {m : M (List D)} {xs : List D} (h1 : m z = some (xs, ⟨s, h⟩)) : E.shr m z = some (.ref h.length, ⟨s, h ++ [.lst xs]⟩) := by
  unfold E.shr
  rw [bnd_of h1]
theorem ev_disp {as : List (M D)} {xs : List D} (h1 : E.args as z = some (xs, z1)) : N.disp as z = some (xs, z1) := h1
theorem ev_call {mf : Fn} {as : List (M D)} {xs : List D} (h1 : E.args as z = some (xs, ⟨s, h⟩)) (h2 : mf xs h = some (d, h')) : E.call mf as z = some (d, ⟨s, h'⟩) := by
  unfold E.call
  rw [bnd_of h1]
  show (match mf xs h with | none => none | some (d, h') => some (d, _)) = _
  rw [h2]
theorem ev_blt1 {f : List D → Z → Option D} (h1 : a z = some (x, z1)) (h2 : f [x] z1 = some d) : E.blt f [a] z = some (d, z1) := by
  show bnd a _ z = _
  rw [bnd_of h1, h2]
theorem ev_blt2 {f : List D → Z → Option D} {xs : List D} (h1 : E.args [a, b] z = some (xs, z1)) (h2 : f xs z1 = some d) : E.blt f [a, b] z = some (d, z1) := by
  show bnd (E.args [a, b]) _ z = _
  rw [bnd_of h1, h2]
theorem ev_and (h1 : a z = some (.bl p, z)) (h2 : p = true → b z = some (.bl q, z)) : E.and a b z = some (.bl (p && q), z) := by
  unfold E.and
  rw [bnd_of h1]
  cases p with
  | true => exact h2 rfl
  | false => rfl
theorem ev_or (h1 : a z = some (.bl p, z)) (h2 : p = false → b z = some (.bl q, z)) : E.or a b z = some (.bl (p || q), z) := by
  unfold E.or
  rw [bnd_of h1]
  cases p with
  | false => exact h2 rfl
  | true => rfl
theorem ev_not (h1 : a z = some (.bl p, z1)) : E.not a z = some (.bl (!p), z1) := by
  unfold E.not
  rw [bnd_of h1]
  rfl
theorem ev_chain {f g : D → D → Z → Option D} (h1 : a z = some (x, z1)) (h2 : b z1 = some (y, z1)) (h3 : f x y z1 = some (.bl p)) (h4 : p = true → c z1 = some (w, z1)) (h5 : p = true → g y w z1 = some (.bl q)) : E.chain f g a b c z = some (.bl (p && q), z1) := by
  unfold E.chain
  rw [bnd_of h1, bnd_of h2, h3]
  cases p with
  | true =>
    dsimp only
    rw [bnd_of (h4 rfl), h5 rfl]
    rfl
  | false => rfl
theorem ev_iteT (h1 : t z = some (true, z1)) {r : Option (D × Z)} (h2 : a z1 = r) : E.ite t a b z = r := by
  unfold E.ite
  rw [bnd_of h1]
  exact h2
theorem ev_iteF (h1 : t z = some (false, z1)) {r : Option (D × Z)} (h2 : b z1 = r) : E.ite t a b z = r := by
  unfold E.ite
  rw [bnd_of h1]
  exact h2
theorem ev_iteI (h1 : t z = some (p, z1)) (h2 : p = true → a z1 = some (.int i, z2)) (h3 : p = false → b z1 = some (.int j, z2)) : E.ite t a b z = some (.int (if p = true then i else j), z2) := by
  unfold E.ite
  rw [bnd_of h1]
  cases p with
  | true => exact h2 rfl
  | false => exact h3 rfl
theorem ev_iteD (h1 : t z = some (p, z1)) (h2 : p = true → a z1 = some (x, z2)) (h3 : p = false → b z1 = some (y, z2)) : E.ite t a b z = some (if p = true then x else y, z2) := by
  unfold E.ite
  rw [bnd_of h1]
  cases p with
  | true => exact h2 rfl
  | false => exact h3 rfl
/-! tests -/
theorem tv (h1 : a z = some (.bl p, z1)) : T.val a z = some (p, z1) := by
  unfold T.val
  rw [bnd_of h1]
  rfl
theorem tt_tru (h1 : a z = some (x, z1)) (h2 : O.tru x z1 = some p) : T.tru a z = some (p, z1) := by
  unfold T.tru
  rw [bnd_of h1, h2]
theorem tt_and (h1 : t z = some (p, z)) (h2 : p = true → u z = some (q, z)) : T.and t u z = some (p && q, z) := by
  unfold T.and
  rw [bnd_of h1]
  cases p with
  | true => exact h2 rfl
  | false => rfl
theorem tt_or (h1 : t z = some (p, z)) (h2 : p = false → u z = some (q, z)) : T.or t u z = some (p || q, z) := by
  unfold T.or
  rw [bnd_of h1]
  cases p with
  | false => exact h2 rfl
  | true => rfl
theorem tt_not (h1 : t z = some (p, z1)) : T.not t z = some (!p, z1) := by
  unfold T.not
  rw [bnd_of h1]
  rfl
/-! new lists -/
theorem ev_ofSeq {tt : Bool} {ds : List D} (h1 : a z = some (x, z1)) (h2 : cont x z1 = some (tt, ds)) : N.ofSeq a z = some (ds, z1) := by
  unfold N.ofSeq
  rw [bnd_of h1, h2]
theorem ev_part0 : N.part none z = some (none, z) := rfl
theorem ev_part (h1 : a z = some (.int i, z1)) : N.part (some a) z = some (some i, z1) := by
  show bnd a _ z = _
  rw [bnd_of h1]
  rfl
theorem ev_slice {lo hi : Option (M D)} {l u : Option Int} {ds : List D} (h1 : a z = some (x, z1)) (h2 : N.part lo z1 = some (l, z2)) (h3 : N.part hi z2 = some (u, z3)) (h4 : cont x z3 = some (false, ds)) : N.slice a lo hi z = some (N.cutL ds l u, z3) := by
  unfold N.slice
  rw [bnd_of h1, bnd_of h2, bnd_of h3, h4]
theorem ev_cat {ds es : List D} (h1 : a z = some (x, z1)) (h2 : b z1 = some (y, z2)) (h3 : cont x z2 = some (false, ds)) (h4 : cont y z2 = some (false, es)) (hx : noScr x = true) (hy : noScr y = true) (hl : ds.length + es.length < szl) : N.cat a b z = some (ds ++ es, z2) := by
  unfold N.cat
  rw [bnd_of h1, bnd_of h2]
  try dsimp only
  split
  · cases hx
  · cases hy
  · rw [h3, h4]
    dsimp only
    rw [if_pos hl]
/-! changes -/
theorem ev_chgO {f : List D → List D → Option (D × List D)} {as : List (M D)} {xs ds ds0 ds' : List D} {n : Nat} (h1 : a z = some (.own n, z1)) (h0 : z1.s[n]? = some (.own (.lst ds0))) (h2 : E.args as z1 = some (xs, ⟨s, h⟩)) (h3 : s[n]? = some (.own (.lst ds))) (h4 : f ds xs = some (d, ds')) : E.chg f a as z = some (d, ⟨s.set n (.own (.lst ds')), h⟩) := by
  unfold E.chg
  rw [bnd_of h1]
  have hi : E.isLst (.own n) z1 = true := by
    show (cont (.own n) z1).isSome = true
    show (match z1.s[n]? with | some (.own (.lst xs)) => some (false, xs) | _ => none).isSome = true
    rw [h0]
    rfl
  try dsimp only
  rw [if_pos hi, bnd_of h2]
  show (match s[n]? with
    | some (.own (.lst ds)) => match f ds xs with
      | none => none
      | some (d, ds') => some (d, (⟨s.set n (.own (.lst ds')), h⟩ : Z))
    | _ => none) = _
  rw [h3]
  dsimp only
  rw [h4]
theorem ev_chgR {f : List D → List D → Option (D × List D)} {as : List (M D)} {xs ds ds0 ds' : List D} {n : Nat} (h1 : a z = some (.ref n, z1)) (h0 : z1.h[n]? = some (.lst ds0)) (h2 : E.args as z1 = some (xs, ⟨s, h⟩)) (h3 : h[n]? = some (.lst ds)) (h4 : f ds xs = some (d, ds')) : E.chg f a as z = some (d, ⟨s, h.set n (.lst ds')⟩) := by
  unfold E.chg
  rw [bnd_of h1]
  have hi : E.isLst (.ref n) z1 = true := by
    show (match z1.h[n]? with | some (.lst xs) => some (false, xs) | _ => none).isSome = true
    rw [h0]
    rfl
  try dsimp only
  rw [if_pos hi, bnd_of h2]
  show (match h[n]? with
    | some (.lst ds) => match f ds xs with
      | none => none
      | some (d, ds') => some (d, (⟨s, h.set n (.lst ds')⟩ : Z))
    | _ => none) = _
  rw [h3]
  dsimp only
  rw [h4]
theorem ixN0 {n : Nat} : ixN (n + 1) 0 = some 0 := by
  unfold ixN
  rw [if_pos (by decide), if_pos (by omega)]
  rfl
theorem popAt0 {ds : List D} : U.popAt (x :: ds) [.int 0] = some (x, ds) := by
  show (if -(2 ^ 63) ≤ (0 : Int) ∧ (0 : Int) < 2 ^ 63 then match ixN (ds.length + 1) 0 with
    | some k => match (x :: ds)[k]? with
      | some d => some (d, (x :: ds).eraseIdx k)
      | none => none
    | none => none else none) = _
  rw [if_pos (by decide), ixN0]
  rfl
theorem setAt0 {ds : List D} : U.setAt (x :: ds) 0 y = some (y :: ds) := by
  show (ixN (ds.length + 1) 0).map _ = _
  rw [ixN0]
  rfl
theorem append_v {ds : List D} (h : ds.length < szl) : U.append ds [x] = some (.non, ds ++ [x]) := if_pos h
/-! statements -/
variable {ca cb : C} {f : Fl} {r : Option (Fl × Z)}
theorem cs_skip : C.skip z = some (.nx, z) := rfl
theorem cs_nx (h1 : ca z = some (.nx, z1)) (h2 : cb z1 = r) : C.seq ca cb z = r := by
  unfold C.seq
  rw [h1]
  exact h2
theorem cs_rt (h1 : ca z = some (.rt d, z1)) : C.seq ca cb z = some (.rt d, z1) := by
  unfold C.seq
  rw [h1]
theorem cs_ct (h1 : ca z = some (.ct, z1)) : C.seq ca cb z = some (.ct, z1) := by
  unfold C.seq
  rw [h1]
theorem cs_bk (h1 : ca z = some (.bk, z1)) : C.seq ca cb z = some (.bk, z1) := by
  unfold C.seq
  rw [h1]
theorem cs_set {n : Nat} (h1 : a z = some (d, ⟨s, h⟩)) (hp : isPure d = true) : C.set n a z = some (.nx, ⟨s.set n (.val d), h⟩) := by
  unfold C.set
  rw [bnd_of h1]
  exact if_pos hp
theorem cs_own {n : Nat} {m : M (List D)} {ds : List D} (h1 : m z = some (ds, ⟨s, h⟩)) (hn : n < s.length) : C.own n m z = some (.nx, ⟨s.set n (.own (.lst ds)), h⟩) := by
  unfold C.own
  rw [bnd_of h1]
  exact if_pos hn
theorem cs_frz {n : Nat} {ds : List D} (h1 : s[n]? = some (.own (.lst ds))) : C.frz n ⟨s, h⟩ = some (.nx, ⟨s.set n (.val (.lst ds)), h⟩) := by
  unfold C.frz
  rw [h1]
theorem cs_drop (h1 : a z = some (d, z1)) : C.drop a z = some (.nx, z1) := by
  unfold C.drop
  rw [bnd_of h1]
theorem cs_ret (h1 : a z = some (d, z1)) (hp : isPure d = true) : C.ret a z = some (.rt d, z1) := by
  unfold C.ret
  rw [bnd_of h1]
  cases d <;> first | rfl | cases hp
theorem cs_retO {n : Nat} {ds : List D} (h1 : a z = some (.own n, ⟨s, h⟩)) (h2 : s[n]? = some (.own (.lst ds))) : C.ret a z = some (.rt (.lst ds), ⟨s.set n .no, h⟩) := by
  unfold C.ret
  rw [bnd_of h1]
  show (match s[n]? with | some (.own (.lst ds)) => some (Fl.rt (D.lst ds), (⟨s.set n .no, h⟩ : Z)) | _ => none) = _
  rw [h2]
theorem cs_retS {n : Nat} {ds : List D} (h1 : a z = some (.own n, ⟨s, h⟩)) (h2 : s[n]? = some (.own (.lst ds))) : C.retS a z = some (.rt (.ref h.length), ⟨s.set n .no, h ++ [D.lst ds]⟩) := by
  unfold C.retS
  rw [bnd_of h1]
  show (match s[n]? with | some (.own (.lst ds)) => some (Fl.rt (D.ref h.length), (⟨s.set n .no, h ++ [D.lst ds]⟩ : Z)) | _ => none) = _
  rw [h2]
theorem cs_iteT (h1 : t z = some (true, z1)) (h2 : ca z1 = r) : C.ite t ca cb z = r := by
  unfold C.ite
  rw [bnd_of h1]
  exact h2
theorem cs_iteF (h1 : t z = some (false, z1)) (h2 : cb z1 = r) : C.ite t ca cb z = r := by
  unfold C.ite
  rw [bnd_of h1]
  exact h2
theorem cs_ite (h1 : t z = some (p, z1)) (h2 : p = true → ca z1 = r) (h3 : p = false → cb z1 = r) : C.ite t ca cb z = r := by
  unfold C.ite
  rw [bnd_of h1]
  cases p with
  | true => exact h2 rfl
  | false => exact h3 rfl
theorem cs_asg {g : G} (h1 : a z = some (d, z1)) (hp : isPure d = true) (h2 : g.run d z1 = some z2) : C.asg g a z = some (.nx, z2) := by
  unfold C.asg
  rw [bnd_of h1]
  try dsimp only
  rw [if_pos hp, h2]
theorem cs_aug {n : Nat} {g : D → D → Z → Option D} (h1 : z.s[n]? = some (.val x)) (h2 : a z = some (y, ⟨s, h⟩)) (h3 : g x y ⟨s, h⟩ = some d) (hp : isPure d = true) : C.aug n g a z = some (.nx, ⟨s.set n (.val d), h⟩) := by
  unfold C.aug
  rw [h1]
  dsimp only
  rw [bnd_of h2, h3]
  exact if_pos hp
theorem cs_setIxO {n : Nat} {ds ds' : List D} (h1 : c z = some (d, z1)) (h2 : a z1 = some (.own n, z2)) (h3 : b z2 = some (.int i, ⟨s, h⟩)) (hp : isPure d = true) (h4 : s[n]? = some (.own (.lst ds))) (h5 : U.setAt ds i d = some ds') : C.setIx a b c z = some (.nx, ⟨s.set n (.own (.lst ds')), h⟩) := by
  unfold C.setIx
  rw [bnd_of h1, bnd_of h2, bnd_of h3, if_pos hp]
  show (match s[n]? with
      | some (.own (.lst ds)) => match U.setAt ds i d with
        | some ds' => some (Fl.nx, (⟨s.set n (.own (.lst ds')), h⟩ : Z))
        | none => none
      | _ => none) = _
  rw [h4]
  dsimp only
  rw [h5]
theorem cs_setIxR {n : Nat} {ds ds' : List D} (h1 : c z = some (d, z1)) (h2 : a z1 = some (.ref n, z2)) (h3 : b z2 = some (.int i, ⟨s, h⟩)) (hp : isPure d = true) (h4 : h[n]? = some (.lst ds)) (h5 : U.setAt ds i d = some ds') : C.setIx a b c z = some (.nx, ⟨s, h.set n (.lst ds')⟩) := by
  unfold C.setIx
  rw [bnd_of h1, bnd_of h2, bnd_of h3, if_pos hp]
  show (match h[n]? with
      | some (.lst ds) => match U.setAt ds i d with
        | some ds' => some (Fl.nx, (⟨s, h.set n (.lst ds')⟩ : Z))
        | none => none
      | _ => none) = _
  rw [h4]
  dsimp only
  rw [h5]
theorem cs_setN {n : Nat} {s' : List Sl} (h1 : a z = some (d, ⟨s, h⟩)) (hp : isPure d = true) (hs : s.set n (.val d) = s') : C.set n a z = some (.nx, ⟨s', h⟩) := by
  subst hs
  exact cs_set h1 hp
theorem cs_ownN {n : Nat} {m : M (List D)} {ds : List D} {s' : List Sl} (h1 : m z = some (ds, ⟨s, h⟩)) (hn : n < s.length) (hs : s.set n (.own (.lst ds)) = s') : C.own n m z = some (.nx, ⟨s', h⟩) := by
  subst hs
  exact cs_own h1 hn
theorem cs_frzN {n : Nat} {ds : List D} {s' : List Sl} (h1 : s[n]? = some (.own (.lst ds))) (hs : s.set n (.val (.lst ds)) = s') : C.frz n ⟨s, h⟩ = some (.nx, ⟨s', h⟩) := by
  subst hs
  exact cs_frz h1
theorem cs_augN {n : Nat} {g : D → D → Z → Option D} {s' : List Sl} (h1 : z.s[n]? = some (.val x)) (h2 : a z = some (y, ⟨s, h⟩)) (h3 : g x y ⟨s, h⟩ = some d) (hp : isPure d = true) (hs : s.set n (.val d) = s') : C.aug n g a z = some (.nx, ⟨s', h⟩) := by
  subst hs
  exact cs_aug h1 h2 h3 hp
theorem cs_setIxN {n : Nat} {ds ds' : List D} {s' : List Sl} (h1 : c z = some (d, z1)) (h2 : a z1 = some (.own n, z2)) (h3 : b z2 = some (.int i, ⟨s, h⟩)) (hp : isPure d = true) (h4 : s[n]? = some (.own (.lst ds))) (h5 : U.setAt ds i d = some ds') (hs : s.set n (.own (.lst ds')) = s') : C.setIx a b c z = some (.nx, ⟨s', h⟩) := by
  subst hs
  exact cs_setIxO h1 h2 h3 hp h4 h5
theorem ev_chgN {f : List D → List D → Option (D × List D)} {as : List (M D)} {xs ds ds0 ds' : List D} {n : Nat} {s' : List Sl} (h1 : a z = some (.own n, z1)) (h0 : z1.s[n]? = some (.own (.lst ds0))) (h2 : E.args as z1 = some (xs, ⟨s, h⟩)) (h3 : s[n]? = some (.own (.lst ds))) (h4 : f ds xs = some (d, ds')) (hs : s.set n (.own (.lst ds')) = s') : E.chg f a as z = some (d, ⟨s', h⟩) := by
  subst hs
  exact ev_chgO h1 h0 h2 h3 h4
theorem fn_rt {n k : Nat} {ds : List D} (hl : ds.length = k) (h1 : ca ⟨slots n ds, h⟩ = some (.rt d, z)) : fn n k ca ds h = some (d, z.h) := by
  unfold fn
  rw [if_pos hl, h1]
theorem fn_rtH {n k : Nat} {ds : List D} (hl : ds.length = k) (h1 : ca ⟨slots n ds, h⟩ = some (.rt d, ⟨s, h'⟩)) : fn n k ca ds h = some (d, h') := fn_rt hl h1
theorem fn_rtN {n k : Nat} {ds : List D} {s' : List Sl} (hl : ds.length = k) (hs : slots n ds = s') (h1 : ca ⟨s', h⟩ = some (.rt d, ⟨s, h'⟩)) : fn n k ca ds h = some (d, h') := by
  subst hs
  exact fn_rt hl h1
theorem fn_nx {n k : Nat} {ds : List D} (hl : ds.length = k) (h1 : ca ⟨slots n ds, h⟩ = some (.nx, z)) : fn n k ca ds h = some (.non, z.h) := by
  unfold fn
  rw [if_pos hl, h1]
end

theorem ev_to {α : Type} {m : M α} {z z' w : Z} {x x' : α} (h : m z = some (x', z')) (hx : x' = x) (hz : z' = w) : m z = some (x, w) := by
  rw [h, hx, hz]
/-- a body that ends with a value -/
def Ends (c : C) (z : Z) (d : D) : Prop := ∃ z', c z = some (.rt d, z')
theorem Ends.nx {a b : C} {z z1 : Z} {d : D} (h1 : a z = some (.nx, z1)) (h2 : Ends b z1 d) : Ends (C.seq a b) z d := by
  obtain ⟨z', h⟩ := h2
  exact ⟨z', cs_nx h1 h⟩
theorem Ends.one {a : C} {z z1 : Z} {d : D} (h1 : a z = some (.rt d, z1)) : Ends a z d := ⟨z1, h1⟩
theorem Ends.fn {b : C} {n k : Nat} {ds h : List D} {d : D} (hl : ds.length = k) (h1 : Ends b ⟨slots n ds, h⟩ d) : ∃ h', fn n k b ds h = some (d, h') := by
  obtain ⟨z', h⟩ := h1
  exact ⟨_, fn_rt hl h⟩
/-! ### loops -/
section
variable {it : It} {g : G} {b : C} {z z1 z2 : Z} {mi : M It}
theorem cs_for (h1 : mi z = some (it, z1)) {r : Option (Fl × Z)} (h2 : C.loop it g b it.items z1 = r) : C.for_ mi g b z = r := by
  unfold C.for_
  rw [bnd_of h1]
  exact h2
theorem whl_f {t : M Bool} (h1 : t z = some (false, z1)) : C.whl t b z = some (.nx, z1) := by
  rw [C.whl, h1]
theorem whl_t {t : M Bool} {r : Option (Fl × Z)} (h1 : t z = some (true, z1)) (h2 : b z1 = some (.nx, z2)) (h3 : C.whl t b z2 = r) : C.whl t b z = r := by
  rw [C.whl, h1]
  dsimp only
  rw [h2]
  exact h3
theorem whl_rt {t : M Bool} {d : D} (h1 : t z = some (true, z1)) (h2 : b z1 = some (.rt d, z2)) : C.whl t b z = some (.rt d, z2) := by
  rw [C.whl, h1]
  dsimp only
  rw [h2]
theorem whl_bk {t : M Bool} (h1 : t z = some (true, z1)) (h2 : b z1 = some (.bk, z2)) : C.whl t b z = some (.nx, z2) := by
  rw [C.whl, h1]
  dsimp only
  rw [h2]
theorem ok_none {xs : List D} : (⟨xs, none⟩ : It).ok z = true := rfl
theorem loop_nil (hk : it.chk = none) : C.loop it g b [] z = some (.nx, z) := by
  have : it.ok z = true := by unfold It.ok; rw [hk]
  unfold C.loop
  exact if_pos this
theorem loop_cons {d : D} {ds : List D} {f : Fl} {r : Option (Fl × Z)} (hk : it.chk = none) (h1 : g.run d z = some z1) (h2 : b z1 = some (f, z2)) (h3 : (match f with | .nx => C.loop it g b ds z2 | .ct => C.loop it g b ds z2 | .bk => some (.nx, z2) | .rt d => some (.rt d, z2)) = r) : C.loop it g b (d :: ds) z = r := by
  have : it.ok z = true := by unfold It.ok; rw [hk]
  unfold C.loop
  rw [if_pos this, h1]
  dsimp only
  rw [h2, ← h3]
  cases f <;> rfl
/-- a loop by an invariant over the items left: it goes to its end -/
theorem loop_inv {it : It} {g : G} {b : C} (hk : it.chk = none) (P : List D → Z → Prop) (Q : Z → Prop) (step : ∀ d ds z, P (d :: ds) z → ∃ z1 z2, g.run d z = some z1 ∧ (b z1 = some (.nx, z2) ∨ b z1 = some (.ct, z2)) ∧ P ds z2) (fin : ∀ z, P [] z → Q z) : ∀ (ds : List D) (z : Z), P ds z → ∃ z', C.loop it g b ds z = some (.nx, z') ∧ Q z'
  | [], z, h => ⟨z, loop_nil hk, fin z h⟩
  | d :: ds, z, h => by
    obtain ⟨z1, z2, h1, h2, h3⟩ := step d ds z h
    obtain ⟨z', h4, h5⟩ := loop_inv hk P Q step fin ds z2 h3
    refine ⟨z', ?_, h5⟩
    rcases h2 with h2 | h2
    · exact loop_cons hk h1 h2 h4
    · exact loop_cons hk h1 h2 h4
theorem ev_seq {a : M D} {x : D} {xs : List D} (h1 : a z = some (x, z1)) (h2 : itemsOf x = some xs) : I.seq a z = some (⟨xs, none⟩, z1) := by
  unfold I.seq
  rw [bnd_of h1]
  cases x <;> first | (cases h2; rfl) | cases h2
theorem ev_seqC {a : M D} {x : D} {xs : List D} (h1 : a z = some (x, z1)) (h2 : itemsOf x = some xs) : I.seqC a z = some (⟨xs, none⟩, z1) := by
  unfold I.seqC
  rw [bnd_of h1]
  cases x <;> first | (cases h2; rfl) | cases h2
theorem ev_rng1 {a : M D} {n : Int} (h1 : a z = some (.int n, z1)) (h2 : -(2 ^ 62) ≤ n ∧ n < 2 ^ 62) : I.rng1 a z = some (⟨I.irng 0 n.toNat, none⟩, z1) := by
  unfold I.rng1
  rw [bnd_of h1]
  dsimp only
  rw [if_pos h2]
  rfl
theorem ev_rng2 {a b : M D} {i j : Int} (h1 : a z = some (.int i, z1)) (h3 : b z1 = some (.int j, z2)) (h2 : (-(2 ^ 62) ≤ i ∧ i < 2 ^ 62) ∧ -(2 ^ 62) ≤ j ∧ j < 2 ^ 62) : I.rng2 a b z = some (⟨I.irng i (j - i).toNat, none⟩, z2) := by
  unfold I.rng2
  rw [bnd_of h1, bnd_of h3]
  dsimp only
  rw [if_pos h2]
  rfl
/-- a comprehension whose items and elements change nothing: item by item -/
theorem comp_loop {it : It} {g : G} {vs : List Nat} {tt : M Bool} {te : M D} (hk : it.chk = none) (fl : D → Bool) (fe : D → D) (w : Z) (step : ∀ d, d ∈ it.items → ∃ z1 z2 z3, g.run d w = some z1 ∧ tt z1 = some (fl d, z2) ∧ (fl d = true → te z2 = some (fe d, z3) ∧ isPure (fe d) = true) ∧ (fl d = true → (⟨N.wipe z3.s vs, z3.h⟩ : Z) = w) ∧ (fl d = false → (⟨N.wipe z2.s vs, z2.h⟩ : Z) = w)) :
    ∀ (ds : List D) (acc : List D), (∀ d ∈ ds, d ∈ it.items) → N.loop it g vs tt te ds acc w = some (acc ++ (ds.filter fl).map fe, w)
  | [], acc, _ => by
    have : it.ok w = true := by unfold It.ok; rw [hk]
    unfold N.loop
    rw [if_pos this]
    simp
  | d :: ds, acc, hm => by
    have ok : it.ok w = true := by unfold It.ok; rw [hk]
    obtain ⟨z1, z2, z3, h1, h2, h3, h4, h5⟩ := step d (hm d List.mem_cons_self)
    have ih := fun acc => comp_loop hk fl fe w step ds acc fun x hx => hm x (List.mem_cons_of_mem _ hx)
    unfold N.loop
    rw [if_pos ok, h1]
    dsimp only
    rw [h2]
    cases hf : fl d with
    | true =>
      obtain ⟨h6, h7⟩ := h3 hf
      dsimp only
      rw [h6]
      dsimp only
      rw [if_pos h7, h4 hf, ih]
      simp [List.filter_cons, hf]
    | false =>
      dsimp only
      rw [h5 hf, ih]
      simp [List.filter_cons, hf]
/-- .. one by one -/
theorem nl_nil {it : It} {g : G} {vs : List Nat} {tt : M Bool} {te : M D} {acc : List D} (ok : it.ok z = true) : N.loop it g vs tt te [] acc z = some (acc, z) := by
  unfold N.loop
  rw [if_pos ok]
theorem nl_t {it : It} {g : G} {vs : List Nat} {tt : M Bool} {te : M D} {acc ds : List D} {d x : D} {z1 z2 z3 : Z} {r : Option (List D × Z)} (ok : it.ok z = true) (h1 : g.run d z = some z1) (h2 : tt z1 = some (true, z2)) (h3 : te z2 = some (x, z3)) (hp : isPure x = true) (h4 : N.loop it g vs tt te ds (acc ++ [x]) ⟨N.wipe z3.s vs, z3.h⟩ = r) : N.loop it g vs tt te (d :: ds) acc z = r := by
  unfold N.loop
  rw [if_pos ok, h1]
  dsimp only
  rw [h2]
  dsimp only
  rw [h3]
  dsimp only
  rw [if_pos hp]
  exact h4
theorem nl_tN {it : It} {g : G} {vs : List Nat} {tt : M Bool} {te : M D} {acc acc' ds : List D} {d x : D} {z1 z2 : Z} {s3 s4 : List Sl} {h3 : List D} {r : Option (List D × Z)} (ok : it.ok z = true) (h1 : g.run d z = some z1) (h2 : tt z1 = some (true, z2)) (h3' : te z2 = some (x, ⟨s3, h3⟩)) (hp : isPure x = true) (hw : N.wipe s3 vs = s4) (ha : acc ++ [x] = acc') (h4 : N.loop it g vs tt te ds acc' ⟨s4, h3⟩ = r) : N.loop it g vs tt te (d :: ds) acc z = r := by
  subst hw
  subst ha
  exact nl_t ok h1 h2 h3' hp h4
theorem ev_compN {mi : M It} {it : It} {g : G} {vs : List Nat} {tt : M Bool} {te : M D} {r : List D} {s1 s2 s3 s4 : List Sl} {h1' h2' : List D} (h1 : mi z = some (it, ⟨s1, h1'⟩)) (h2 : it.items.length ≤ szl) (h3 : (vs.all fun v => !N.isOwn s1[v]?) = true) (hw : N.wipe s1 vs = s3) (h4 : N.loop it g vs tt te it.items [] ⟨s3, h1'⟩ = some (r, ⟨s2, h2'⟩)) (hr : N.rest s1 s2 vs = s4) : N.comp mi g vs tt te z = some (r, ⟨s4, h2'⟩) := by
  subst hw hr
  unfold N.comp
  rw [bnd_of h1]
  dsimp only
  rw [if_pos ⟨h2, h3⟩, h4]
theorem nl_f {it : It} {g : G} {vs : List Nat} {tt : M Bool} {te : M D} {acc ds : List D} {d : D} {z1 z2 : Z} {r : Option (List D × Z)} (ok : it.ok z = true) (h1 : g.run d z = some z1) (h2 : tt z1 = some (false, z2)) (h4 : N.loop it g vs tt te ds acc ⟨N.wipe z2.s vs, z2.h⟩ = r) : N.loop it g vs tt te (d :: ds) acc z = r := by
  unfold N.loop
  rw [if_pos ok, h1]
  dsimp only
  rw [h2]
  exact h4
theorem ok_own {xs : List D} {d : D} {t : Bool} (h : cont d z = some (t, xs)) : (⟨xs, some d⟩ : It).ok z = true := by
  unfold It.ok
  dsimp only
  rw [if_pos ⟨t, h⟩]
theorem ev_seqCO {a : M D} {n : Nat} {t : Bool} {xs : List D} (h1 : a z = some (.own n, z1)) (h2 : cont (.own n) z1 = some (t, xs)) : I.seqC a z = some (⟨xs, some (.own n)⟩, z1) := by
  unfold I.seqC
  rw [bnd_of h1]
  show (match cont (.own n) z1 with | some (_, xs) => some ((⟨xs, some (.own n)⟩ : It), z1) | none => none) = _
  rw [h2]
theorem ev_true {α : Type} {x : α} : Mi.ret x z = some (x, z) := rfl
/-- .. by an invariant over the items left and what is made -/
theorem comp_inv {it : It} {g : G} {vs : List Nat} {tt : M Bool} {te : M D} (hk : it.chk = none) (P : List D → List D → Z → Prop)
    (step : ∀ d ds acc z, P (d :: ds) acc z → ∃ z1 z2, g.run d z = some z1 ∧ ((tt z1 = some (false, z2) ∧ P ds acc ⟨N.wipe z2.s vs, z2.h⟩) ∨ ∃ x z3, tt z1 = some (true, z2) ∧ te z2 = some (x, z3) ∧ isPure x = true ∧ P ds (acc ++ [x]) ⟨N.wipe z3.s vs, z3.h⟩)) :
    ∀ (ds acc : List D) (z : Z), P ds acc z → ∃ r z', N.loop it g vs tt te ds acc z = some (r, z') ∧ P [] r z'
  | [], acc, z, h => by
    have : it.ok z = true := by unfold It.ok; rw [hk]
    refine ⟨acc, z, ?_, h⟩
    unfold N.loop
    rw [if_pos this]
  | d :: ds, acc, z, h => by
    have ok : it.ok z = true := by unfold It.ok; rw [hk]
    obtain ⟨z1, z2, h1, h2⟩ := step d ds acc z h
    rcases h2 with ⟨h2, h3⟩ | ⟨x, z3, h2, h3, h4, h5⟩
    · obtain ⟨r, z', h6, h7⟩ := comp_inv hk P step ds acc _ h3
      refine ⟨r, z', ?_, h7⟩
      unfold N.loop
      rw [if_pos ok, h1]
      dsimp only
      rw [h2]
      exact h6
    · obtain ⟨r, z', h6, h7⟩ := comp_inv hk P step ds _ _ h5
      refine ⟨r, z', ?_, h7⟩
      unfold N.loop
      rw [if_pos ok, h1]
      dsimp only
      rw [h2]
      dsimp only
      rw [h3]
      dsimp only
      rw [if_pos h4]
      exact h6
/-- .. in all, where the names of the block are set anew each time -/
theorem ev_comp {mi : M It} {it : It} {g : G} {vs : List Nat} {tt : M Bool} {te : M D} {r : List D} {z1 z2 : Z} (h1 : mi z = some (it, z1)) (h2 : it.items.length ≤ szl) (h3 : (vs.all fun v => !N.isOwn z1.s[v]?) = true) (h4 : N.loop it g vs tt te it.items [] ⟨N.wipe z1.s vs, z1.h⟩ = some (r, z2)) : N.comp mi g vs tt te z = some (r, ⟨N.rest z1.s z2.s vs, z2.h⟩) := by
  unfold N.comp
  rw [bnd_of h1]
  try dsimp only
  rw [if_pos ⟨h2, h3⟩, h4]
end
end Mi

set_option Elab.async false
set_option linter.all false
set_option maxRecDepth 100000
/-! Mi, part W: leaves; the laws' drawing. -/
namespace Mi
open PySem PySem.Spec PyProof.Rows L2
section
variable {x d : D} {z z' : Z} {i j : Int}
theorem lf_cont {r : Option (Bool × List D)} (h : cont x z = r) : cont x z = r := h
theorem lf_atI {ds : List D} {r : Option D} (h : atI ds i = r) : atI ds i = r := h
theorem lf_get {α : Type} {xs : List α} {n : Nat} {r : Option α} (h : xs[n]? = r) : xs[n]? = r := h
theorem lf_pure {r : Bool} (h : isPure d = r) : isPure d = r := h
theorem lf_setAt {ds : List D} {r : Option (List D)} (h : U.setAt ds i d = r) : U.setAt ds i d = r := h
theorem lf_tru {r : Option Bool} (h : O.tru d z = r) : O.tru d z = r := h
theorem lf_lt {n m : Nat} (h : n < m) : n < m := h
theorem lf_pos {i : Int} (h : 0 < i) : 0 < i := h
theorem lf_le {n m : Nat} (h : n ≤ m) : n ≤ m := h
theorem lf_isNm {b : Bool} (h : isNon x = b) : isNon x = b := h
theorem lf_notNm {b : Bool} (h : (!isNon x) = b) : (!isNon x) = b := h
theorem lf_noScr {b : Bool} (h : noScr x = b) : noScr x = b := h
theorem atI_zero {xs : List D} : atI (x :: xs) 0 = some x := atI_nat (j := 0) rfl
theorem lf_abs : F.abs [.int i] z = some (.int (if i < 0 then -i else i)) := rfl
theorem lf_int1 : F.int1 [.int i] z = some (.int i) := rfl
theorem lf_max2 : F.max2 [.int i, .int j] z = some (.int (if j > i then j else i)) := rfl
theorem lf_min2 : F.min2 [.int i, .int j] z = some (.int (if j < i then j else i)) := rfl
theorem lf_len {t : Bool} {ds : List D} (h : cont x z = some (t, ds)) : F.len [x] z = some (.int ds.length) := by
  show (match cont x z with | some (_, ds) => some (D.int ds.length) | none => none) = _
  rw [h]
def noKt : D → Bool
  | .kt _ => false
  | _ => true
theorem lf_noKt {b : Bool} (h : noKt x = b) : noKt x = b := h
theorem lf_tuple {t : Bool} {ds : List D} (h : cont x z = some (t, ds)) (hk : noKt x = true) : F.tuple [x] z = some (.tup ds) := by
  have e : F.tuple [x] z = (match cont x z with | some (_, ds) => some (D.tup ds) | none => none) := by
    cases x <;> first | rfl | cases hk
  rw [e, h]
theorem lf_isi {T t : String} {b : Bool} (h : F.tyName x z = some t) (h2 : kitB t T = some b) : F.isi T x z = some (.bl b) := by
  unfold F.isi
  rw [h]
  dsimp only
  rw [h2]
  rfl
theorem lf_isiK {t T : String} {r : Option Bool} (h : kitB t T = r) : kitB t T = r := h
theorem lf_ty {r : Option String} (h : F.tyName x z = r) : F.tyName x z = r := h
theorem lf_set {s s' : List Sl} {n : Nat} {x : Sl} (h : s.set n x = s') : s.set n x = s' := h
theorem lf_slots {n : Nat} {ds : List D} {s' : List Sl} (h : slots n ds = s') : slots n ds = s' := h
theorem lf_wipe {s s' : List Sl} {vs : List Nat} (h : N.wipe s vs = s') : N.wipe s vs = s' := h
theorem lf_rest {s0 s s' : List Sl} {vs : List Nat} (h : N.rest s0 s vs = s') : N.rest s0 s vs = s' := h
theorem lf_run {g : G} {r : Option Z} (h : g.run d z = r) : g.run d z = r := h
theorem lf_len0 {ds : List D} {n : Nat} (h : ds.length = n) : ds.length = n := h
theorem lf_nl {it : It} {g : G} {vs : List Nat} {tt : M Bool} {te : M D} {ds acc : List D} {z : Z} {r : Option (List D × Z)} (h : N.loop it g vs tt te ds acc z = r) : N.loop it g vs tt te ds acc z = r := h
theorem lf_smn {n : Nat} {i : Int} (h : Smn n i) : Smn n i := h
theorem lf_ok {it : It} {r : Bool} (h : it.ok z = r) : it.ok z = r := h
theorem lf_itm {r : Option (List D)} (h : itemsOf d = r) : itemsOf d = r := h
theorem lf_bd {n : Int} (h : -(2 ^ 62) ≤ n ∧ n < 2 ^ 62) : -(2 ^ 62) ≤ n ∧ n < 2 ^ 62 := h
theorem lf_allO {vs : List Nat} {s : List Sl} {r : Bool} (h : (vs.all fun v => !N.isOwn s[v]?) = r) : (vs.all fun v => !N.isOwn s[v]?) = r := h
theorem lf_nm {n : Nat} {r : Option Z} (h : (G.nm n).run d z = r) : (G.nm n).run d z = r := h
theorem gr_nm {n : Nat} {s s' : List Sl} {h : List D} (e : s.set n (.val d) = s') : (G.nm n).run d ⟨s, h⟩ = some ⟨s', h⟩ := by subst e; rfl
theorem gr_nil {z : Z} : G.runs [] [] z = some z := rfl
theorem gr_cons {g : G} {gs : List G} {ds : List D} {z z1 : Z} {r : Option Z} (e : g.run d z = some z1) (e2 : G.runs gs ds z1 = r) : G.runs (g :: gs) (d :: ds) z = r := by
  show (match g.run d z with | none => none | some z1 => G.runs gs ds z1) = r
  rw [e]; exact e2
theorem gr_tp {gs : List G} {ds : List D} {z : Z} {r : Option Z} (e : G.runs gs ds z = r) : (G.tp gs).run (.tup ds) z = r := e
theorem gr_tl {gs : List G} {ds : List D} {z : Z} {r : Option Z} (e : G.runs gs ds z = r) : (G.tl gs).run (.lst ds) z = r := e
theorem sl_z {a y : Sl} {s : List Sl} : (a :: s).set 0 y = y :: s := rfl
theorem sl_s {a y : Sl} {s s' : List Sl} {n : Nat} (e : s.set n y = s') : (a :: s).set (n + 1) y = a :: s' := by subst e; rfl
theorem sw_nil {s : List Sl} : N.wipe s [] = s := rfl
theorem sw_cons {s s1 s2 : List Sl} {v : Nat} {vs : List Nat} (e : N.wipe s vs = s1) (e2 : s1.set v .no = s2) : N.wipe s (v :: vs) = s2 := by subst e; exact e2
theorem sr_nil {s0 s : List Sl} : N.rest s0 s [] = s := rfl
theorem sr_cons {s0 s s1 s2 : List Sl} {x : Sl} {v : Nat} {vs : List Nat} (e0 : s0[v]? = some x) (e : N.rest s0 s vs = s1) (e2 : s1.set v x = s2) : N.rest s0 s (v :: vs) = s2 := by
  subst e
  show (match s0[v]? with | some x => (N.rest s0 s vs).set v x | none => N.rest s0 s vs) = s2
  rw [e0]; exact e2
theorem ss_nil {n : Nat} {s' : List Sl} (e : List.replicate n Sl.no = s') : slots n [] = s' := by rw [← e]; rfl
theorem ss_cons {n : Nat} {d : D} {ds : List D} {s' : List Sl} (e : slots n ds = s') : slots (n + 1) (d :: ds) = .val d :: s' := by
  rw [← e]; unfold slots; simp
theorem se_nil : List.replicate 0 Sl.no = [] := rfl
theorem se_cons {n : Nat} {s' : List Sl} (e : List.replicate n Sl.no = s') : List.replicate (n + 1) Sl.no = .no :: s' := by rw [← e]; rfl
theorem la_nil {x : D} : ([] : List D) ++ [x] = [x] := rfl
theorem la_cons {x a : D} {l l' : List D} (e : l ++ [x] = l') : (a :: l) ++ [x] = a :: l' := by subst e; rfl
theorem lf_app {x : D} {l l' : List D} (h : l ++ [x] = l') : l ++ [x] = l' := h
theorem kb_tt : kitB "tuple" "tuple" = some true := by with_unfolding_all decide
theorem kb_bb : kitB "bool" "bool" = some true := by with_unfolding_all decide
theorem kb_ii : kitB "int" "int" = some true := by with_unfolding_all decide
theorem kb_it : kitB "int" "tuple" = some false := by with_unfolding_all decide
theorem kb_ib : kitB "int" "bool" = some false := by with_unfolding_all decide
theorem kb_bi : kitB "bool" "int" = some true := by with_unfolding_all decide
theorem kb_ll : kitB "list" "list" = some true := by with_unfolding_all decide
theorem kb_ss : kitB "str" "str" = some true := by with_unfolding_all decide
theorem eqP_t3 {a0 a1 a2 b0 b1 b2 : Int} {z : Z} : O.eqP (.tup [.int a0, .int a1, .int a2]) (.tup [.int b0, .int b1, .int b2]) z = some (decide (a0 = b0) && (decide (a1 = b1) && decide (a2 = b2))) := by
  show some ((a0 == b0) && ((a1 == b1) && ((a2 == b2) && true))) = some _
  simp only [Bool.beq_eq_decide_eq, Bool.and_true]
theorem eqP_t2 {a0 a1 b0 b1 : Int} {z : Z} : O.eqP (.tup [.int a0, .int a1]) (.tup [.int b0, .int b1]) z = some (decide (a0 = b0) && decide (a1 = b1)) := by
  show some ((a0 == b0) && ((a1 == b1) && true)) = some _
  simp only [Bool.beq_eq_decide_eq, Bool.and_true]
theorem so_to {α β : Type} {o : Option (α × β)} {x x' : α} {y y' : β} (h : o = some (x', y')) (hx : x' = x) (hy : y' = y) : o = some (x, y) := by subst hx hy; exact h
theorem eqP_bl {a b : Bool} {z : Z} : O.eqP (.bl a) (.bl b) z = some (decide (a = b)) := by cases a <;> cases b <;> rfl
theorem lf_tp {gs : List G} {r : Option Z} (h : (G.tp gs).run d z = r) : (G.tp gs).run d z = r := h
end
local macro_rules | `(tactic| wtm_at "leaf") => `(tactic| first
  | ((with_reducible apply lf_cont); rfl)
  | (with_reducible exact atI_zero)
  | ((with_reducible apply lf_dcont); rfl)
  | ((with_reducible apply lf_dcS); rfl)
  | ((with_reducible apply lf_dgetC); rfl)
  | ((with_reducible apply lf_keyD); rfl)
  | ((with_reducible apply lf_isDict); rfl)
  | ((with_reducible apply lf_dkeys); rfl)
  | ((with_reducible apply lf_atI); first | rfl | exact atI_zero)
  | ((with_reducible apply lf_get); rfl)
  | ((with_reducible apply lf_pure); rfl)
  | ((with_reducible apply lf_setAt); rfl)
  | ((with_reducible apply lf_tru); rfl)
  | ((with_reducible apply lf_lt); exact Nat.le_of_ble_eq_true rfl)
  | ((with_reducible apply lf_pos); first | assumption | decide | omega)
  | ((with_reducible apply lf_le); decide)
  | ((with_reducible apply lf_isNm); rfl)
  | ((with_reducible apply lf_notNm); rfl)
  | ((with_reducible apply lf_noScr); rfl)
  | ((with_reducible apply lf_noKt); rfl)
  | (with_reducible exact eqP_int)
  | (with_reducible exact lf_abs)
  | (with_reducible exact lf_int1)
  | (with_reducible exact lf_max2)
  | (with_reducible exact lf_min2)
  | (with_reducible apply lf_len)
  | (with_reducible apply lf_tuple)
  | (with_reducible apply lf_isi)
  | (with_reducible exact eqP_t3)
  | (with_reducible exact eqP_bl)
  | (with_reducible exact eqP_t2)
  | (with_reducible exact kb_tt)
  | (with_reducible exact kb_bb)
  | (with_reducible exact kb_ii)
  | (with_reducible exact kb_it)
  | (with_reducible exact kb_ib)
  | (with_reducible exact kb_bi)
  | (with_reducible exact kb_ll)
  | (with_reducible exact kb_ss)
  | ((with_reducible apply lf_isiK); with_unfolding_all decide)
  | ((with_reducible apply lf_ty); rfl)
  | ((with_reducible apply lf_bd); exact ⟨by decide, by decide⟩)
  | ((with_reducible apply lf_allO); rfl)
  | ((with_reducible apply lf_app); first | ((repeat (first | (with_reducible exact la_nil) | (with_reducible apply la_cons))); done) | rfl)
  | ((with_reducible apply lf_set); first | ((repeat (first | (with_reducible exact sl_z) | (with_reducible apply sl_s))); done) | rfl)
  | ((with_reducible apply lf_slots); first | ((repeat (first | (with_reducible exact se_nil) | (with_reducible apply se_cons) | (with_reducible apply ss_cons) | (with_reducible apply ss_nil))); done) | rfl)
  | (with_reducible exact sw_nil)
  | (with_reducible apply sw_cons)
  | ((with_reducible apply lf_wipe); rfl)
  | (with_reducible exact sr_nil)
  | (with_reducible apply sr_cons)
  | ((with_reducible apply lf_rest); rfl)
  | (with_reducible apply gr_nm)
  | (with_reducible exact gr_nil)
  | (with_reducible apply gr_cons)
  | (with_reducible apply gr_tp)
  | (with_reducible apply gr_tl)
  | ((with_reducible apply lf_run); first | (simp only [G.nm, G.tp, G.tl, G.runs, List.set_cons_succ, List.set_cons_zero]; done) | rfl)
  | ((with_reducible apply lf_len0); rfl)
  )
local macro_rules | `(tactic| wtm_at "sm") => `(tactic| first
  | ((with_reducible apply lf_smn); with_reducible assumption)
  | (with_reducible exact Smn.nat (by decide))
  | (with_reducible apply Smn.mul)
  | (with_reducible apply Smn.add)
  | (with_reducible apply Smn.sub)
  | (with_reducible apply Smn.neg)
  | (with_reducible apply Smn.ite)
  | (with_reducible apply Smn.div _ (by omega))
  | (with_reducible apply Smn.mod _ (by omega))
  | ((with_reducible refine Smn.of ?_); omega))
local macro_rules | `(tactic| wtm_at "nl") => `(tactic| first
  | (with_reducible apply ev_rng1)
  | (with_reducible apply ev_rng2)
  | (with_reducible apply nl_nil)
  | ((with_reducible apply lf_nl); first | apply nl_tN | apply nl_nil)
  | ((with_reducible apply lf_ok); rfl)
  | ((with_reducible apply lf_itm); rfl))
local macro_rules | `(tactic| wtm_at "e1") => `(tactic| first
  | (with_reducible intro _)
  | (with_reducible exact ev_c)
  | (with_reducible exact ev_args0)
  | (with_reducible exact ev_part0)
  | ((with_reducible apply ev_var); rfl)
  | ((with_reducible apply ev_varO); rfl)
  | (with_reducible apply ev_ix)
  | (with_reducible apply ev_dix)
  | (with_reducible apply ev_din)
  | (with_reducible apply ev_dnotIn)
  | (with_reducible apply ev_get1)
  | (with_reducible apply ev_get2)
  | (with_reducible apply ev_shrN)
  | (with_reducible apply ev_frzD)
  | (with_reducible exact ev_pairs0)
  | (with_reducible apply ev_pairs)
  | (with_reducible apply ev_dispK)
  | (with_reducible apply ev_sortedD)
  | (with_reducible apply ev_rev)
  | (with_reducible apply ev_cutT)
  | (with_reducible apply ev_catT)
  | (with_reducible apply ev_seqK)
  | (with_reducible apply ev_add)
  | (with_reducible apply ev_sub)
  | (with_reducible apply ev_mul)
  | (with_reducible apply ev_div)
  | (with_reducible apply ev_mod)
  | (with_reducible apply ev_neg)
  | (with_reducible apply ev_lt)
  | (with_reducible apply ev_le)
  | (with_reducible apply ev_gt)
  | (with_reducible apply ev_ge)
  | (with_reducible apply ev_eq)
  | (with_reducible apply ev_ne)
  | (with_reducible apply ev_isN)
  | (with_reducible apply ev_notN)
  | (with_reducible apply ev_args)
  | (with_reducible apply ev_tup)
  | (with_reducible apply ev_frz)
  | (with_reducible apply ev_shr)
  | (with_reducible apply ev_disp)
  | (with_reducible apply ev_blt1)
  | (with_reducible apply ev_blt2)
  | (with_reducible apply ev_un)
  | (with_reducible apply ev_and)
  | (with_reducible apply ev_or)
  | (with_reducible apply ev_not)
  | (with_reducible apply tv)
  | (with_reducible apply tt_tru)
  | (with_reducible apply tt_and)
  | (with_reducible apply tt_or)
  | (with_reducible apply tt_not)
  | (with_reducible apply ev_ofSeq)
  | (with_reducible apply ev_part)
  | (with_reducible apply ev_slice)
  | (with_reducible apply ev_compN)
  | (with_reducible exact ev_true)
  | wtm_at "nl"
  | (with_reducible apply ev_chain)
  | (with_reducible apply ev_call)
  | wtm_at "call"
  | wtm_at "leaf"
  | wtm_at "sm")
local macro_rules | `(tactic| wtm_at "ev") => `(tactic| repeat' wtm_at "e1")
local macro_rules | `(tactic| wtm_at "dec") => `(tactic| decide)
local macro_rules | `(tactic| wtm_at "s1") => `(tactic| first
  | (with_reducible exact cs_skip)
  | (with_reducible apply cs_setN)
  | (with_reducible apply cs_dputO)
  | (with_reducible apply cs_ownD)
  | (with_reducible apply cs_frzD)
  | (with_reducible apply cs_retD)
  | (with_reducible apply cs_ownN)
  | (with_reducible apply cs_frzN)
  | (with_reducible apply cs_augN)
  | (with_reducible apply ev_chgN)
  | (with_reducible apply cs_setIxN)
  | (with_reducible apply cs_drop)
  | (with_reducible apply cs_asg)
  | (with_reducible apply cs_ret)
  | wtm_at "e1")
local macro_rules | `(tactic| wtm_at "st") => `(tactic| repeat' wtm_at "s1")
local macro_rules | `(tactic| wtm_at "dz") => `(tactic| (with_reducible apply Dz.nx; · wtm_at "st"))
local macro_rules | `(tactic| wtm_at "di") => `(tactic| (with_reducible apply Dz.ite; · wtm_at "ev"))

/-! ### the state of the draws: what is left of the script, a seed -/
structure DS where
  cells : List Int
  seed : Int
  ok : 0 ≤ seed ∧ seed ≤ 2147483647
def stH (s : DS) : List D := [.lst (s.cells.map D.int), .lst [.ref 0, .int s.seed]]
/-- .. more behind it -/
def stT (s : DS) (tl : List D) : List D := .lst (s.cells.map D.int) :: .lst [.ref 0, .int s.seed] :: tl
def dropZ : List Int → List Int
  | [] => []
  | c :: cs => if c = 0 then dropZ cs else c :: cs
def mixed (s : DS) : Int := (s.seed * 48271 + 12345) % 2147483647
theorem mixed_ok (s : DS) : 0 ≤ mixed s ∧ mixed s ≤ 2147483647 := by
  unfold mixed
  omega
def drawV (s : DS) (many : Int) : Int := match dropZ s.cells with
  | c :: _ => c % many
  | [] => (mixed s / 64) % many
def drawS (s : DS) (many : Int) : DS := match dropZ s.cells with
  | c :: cs => ⟨c / many :: cs, s.seed, s.ok⟩
  | [] => ⟨[], mixed s, mixed_ok s⟩
theorem drawV_nn (s : DS) {many : Int} (h : 0 < many) : 0 ≤ drawV s many := by
  unfold drawV
  split <;> exact Int.emod_nonneg _ (by omega)
theorem drawV_lt (s : DS) {many : Int} (h : 0 < many) : drawV s many < many := by
  unfold drawV
  split <;> exact Int.emod_lt_of_pos _ h
namespace Dr
noncomputable section
def lp_law_draw1 : C := (C.drop (E.chg U.popAt (E.var 2) [(E.c (.int 0))]))
@[reducible] def st_law_draw_1 : C := (C.set 2 (E.op O.ix (E.var 0) (E.c (.int 0))))
@[reducible] def st_law_draw_2 : C := (C.whl (T.and (T.val (E.op O.gt (E.blt F.len [(E.var 2)]) (E.c (.int 0)))) (T.val (E.op O.eq (E.op O.ix (E.var 2) (E.c (.int 0))) (E.c (.int 0))))) lp_law_draw1)
@[reducible] def st_law_draw_3 : C := (C.ite (T.val (E.op O.gt (E.blt F.len [(E.var 2)]) (E.c (.int 0)))) (C.seq (C.set 3 (E.op O.ix (E.var 2) (E.c (.int 0)))) (C.seq (C.setIx (E.var 2) (E.c (.int 0)) (E.op O.div (E.var 3) (E.var 1))) (C.ret (E.op O.mod (E.blt F.int1 [(E.var 3)]) (E.var 1))))) C.skip)
@[reducible] def st_law_draw_4 : C := (C.set 4 (E.op O.mod (E.blt F.int1 [(E.op O.add (E.op O.mul (E.op O.ix (E.var 0) (E.c (.int 1))) (E.c (.int 48271))) (E.c (.int 12345)))]) (E.c (.int 2147483647))))
@[reducible] def st_law_draw_5 : C := (C.setIx (E.var 0) (E.c (.int 1)) (E.var 4))
@[reducible] def st_law_draw_6 : C := (C.ret (E.op O.mod (E.blt F.int1 [(E.op O.div (E.var 4) (E.c (.int 64)))]) (E.var 1)))
def b_law_draw : C := (C.seq st_law_draw_1 (C.seq st_law_draw_2 (C.seq st_law_draw_3 (C.seq st_law_draw_4 (C.seq st_law_draw_5 st_law_draw_6)))))
def m_law_draw : Fn := fn 5 2 b_law_draw
end
theorem lf_lenP {xs : List D} (z : Z) (x : D) (h : cont x z = some (false, xs)) : (T.val (E.op O.gt (E.blt F.len [E.c x]) (E.c (.int 0)))) z = some (decide (0 < xs.length), z) := by
  have e := tv (ev_gt (ev_blt1 (z := z) (ev_c (d := x)) (lf_len h)) (ev_c (d := .int 0)))
  rw [e]
  congr 2
  exact decide_eq_decide.mpr (by omega)
theorem whl_test {tl : List D} (cs : List Int) (sl : List Sl) (X : D) (h2 : sl[2]? = some (.val (.ref 0))) (b : Bool) (hb : b = match cs with | [] => false | c :: _ => decide (c = 0)) : (T.and (T.val (E.op O.gt (E.blt F.len [(E.var 2)]) (E.c (.int 0)))) (T.val (E.op O.eq (E.op O.ix (E.var 2) (E.c (.int 0))) (E.c (.int 0))))) ⟨sl, (.lst (cs.map D.int) :: X :: tl)⟩ = some (b, ⟨sl, (.lst (cs.map D.int) :: X :: tl)⟩) := by
  have e1 : (T.val (E.op O.gt (E.blt F.len [(E.var 2)]) (E.c (.int 0)))) ⟨sl, (.lst (cs.map D.int) :: X :: tl)⟩ = some (decide ((0 : Int) < ((cs.map D.int).length : Nat)), ⟨sl, (.lst (cs.map D.int) :: X :: tl)⟩) :=
    tv (ev_gt (ev_blt1 (ev_var h2) (lf_len rfl)) ev_c)
  subst hb
  cases cs with
  | nil => exact tt_and (q := false) e1 fun h => nomatch h
  | cons c cs =>
    have e2 : (T.val (E.op O.eq (E.op O.ix (E.var 2) (E.c (.int 0))) (E.c (.int 0)))) ⟨sl, (.lst ((c :: cs).map D.int) :: X :: tl)⟩ = some (decide (c = 0), ⟨sl, (.lst ((c :: cs).map D.int) :: X :: tl)⟩) :=
      tv (ev_eq (ev_ix (ev_var h2) ev_c rfl atI_zero) ev_c eqP_int)
    have e3 := tt_and e1 fun _ => e2
    have e4 : decide ((0 : Int) < (((c :: cs).map D.int).length : Nat)) = true := decide_eq_true (by simp)
    rw [e4, Bool.true_and] at e3
    exact e3
theorem while_ev {tl : List D} (cs : List Int) (sl : List Sl) (X : D) (h2 : sl[2]? = some (.val (.ref 0))) : st_law_draw_2 ⟨sl, (.lst (cs.map D.int) :: X :: tl)⟩ = some (.nx, ⟨sl, (.lst ((dropZ cs).map D.int) :: X :: tl)⟩) := by
  induction cs with
  | nil => exact whl_f (whl_test _ _ _ h2 _ rfl)
  | cons c cs ih =>
    by_cases hc : c = 0
    · subst hc
      have e3 : lp_law_draw1 ⟨sl, (.lst ((0 :: cs).map D.int) :: X :: tl)⟩ = some (.nx, ⟨sl, (.lst (cs.map D.int) :: X :: tl)⟩) := by
        unfold lp_law_draw1
        exact cs_drop (ev_chgR (ev_var h2) rfl (ev_args ev_c ev_args0 rfl) rfl popAt0)
      exact whl_t (whl_test _ _ _ h2 true (decide_eq_true rfl).symm) e3 ih
    · have e : dropZ (c :: cs) = c :: cs := if_neg hc
      rw [e]
      exact whl_f (whl_test _ _ _ h2 false (decide_eq_false hc).symm)
theorem draw_evT (tl : List D) (s : DS) {many : Int} {m : Nat} (h : 0 < many) (hm : Smn m many) (hb : m ≤ bigN) : m_law_draw [.ref 1, .int many] (stT s tl) = some (.int (drawV s many), stT (drawS s many) tl) := by
  unfold m_law_draw stT
  have hs := s.ok
  have hseed : Smn 64 s.seed := Smn.of (by omega)
  unfold drawV drawS
  have e0 : b_law_draw ⟨slots 5 [.ref 1, .int many], (.lst (s.cells.map D.int) :: .lst [.ref 0, .int s.seed] :: tl)⟩ = (C.seq st_law_draw_3 (C.seq st_law_draw_4 (C.seq st_law_draw_5 st_law_draw_6))) ⟨[.val (.ref 1), .val (.int many), .val (.ref 0), .no, .no], (.lst ((dropZ s.cells).map D.int) :: .lst [.ref 0, .int s.seed] :: tl)⟩ := by
    unfold b_law_draw
    refine cs_nx (z1 := ⟨[.val (.ref 1), .val (.int many), .val (.ref 0), .no, .no], (.lst (s.cells.map D.int) :: .lst [.ref 0, .int s.seed] :: tl)⟩) ?_ (cs_nx (while_ev s.cells _ _ rfl) rfl)
    exact cs_set (ev_ix (ev_var rfl) ev_c rfl rfl) rfl
  cases hd : dropZ s.cells with
  | cons c cs =>
    apply fn_rtH rfl
    rw [e0, hd]
    have e1 : (T.val (E.op O.gt (E.blt F.len [(E.var 2)]) (E.c (.int 0)))) ⟨[.val (.ref 1), .val (.int many), .val (.ref 0), .no, .no], (.lst ((c :: cs).map D.int) :: .lst [.ref 0, .int s.seed] :: tl)⟩ = some (true, ⟨[.val (.ref 1), .val (.int many), .val (.ref 0), .no, .no], (.lst ((c :: cs).map D.int) :: .lst [.ref 0, .int s.seed] :: tl)⟩) := by
      have e4 : decide ((0 : Int) < (((c :: cs).map D.int).length : Nat)) = true := decide_eq_true (by simp)
      rw [← e4]
      exact tv (ev_gt (ev_blt1 (ev_var rfl) (lf_len rfl)) ev_c)
    refine cs_rt (cs_iteT e1 ?_)
    refine cs_nx (cs_set (ev_ix (ev_var rfl) ev_c rfl atI_zero) rfl) ?_
    refine cs_nx (cs_setIxR (ev_div (ev_var rfl) (ev_var rfl) h hm hb) (ev_var rfl) ev_c rfl rfl (ds' := (c / many :: cs).map D.int) setAt0) ?_
    exact cs_ret (ev_mod (ev_blt1 (ev_var rfl) lf_int1) (ev_var rfl) h) rfl
  | nil =>
    apply fn_rtH rfl
    rw [e0, hd]
    refine cs_nx (cs_iteF (tv (p := false) (by exact ev_gt (ev_blt1 (ev_var rfl) (lf_len (ds := []) rfl)) ev_c)) cs_skip) ?_
    refine cs_nx (cs_set (ev_mod (ev_blt1 (ev_add (ev_mul (ev_ix (ev_var rfl) ev_c rfl rfl) ev_c hseed (Smn.nat (by decide)) (by decide) (by decide)) ev_c) lf_int1) ev_c (by decide)) rfl) ?_
    refine cs_nx (cs_setIxR (ev_var rfl) (ev_var rfl) ev_c rfl rfl rfl) ?_
    exact cs_ret (ev_mod (ev_blt1 (ev_div (ev_var rfl) ev_c (by decide) (Smn.nat (by decide)) (by decide)) lf_int1) (ev_var rfl) h) rfl
theorem draw_ev (s : DS) {many : Int} {m : Nat} (h : 0 < many) (hm : Smn m many) (hb : m ≤ bigN) : m_law_draw [.ref 1, .int many] (stH s) = some (.int (drawV s many), stH (drawS s many)) := draw_evT [] s h hm hb
noncomputable section
def lp_law_state1 : C := (C.set 1 (E.op O.mod (E.blt F.int1 [(E.op O.add (E.op O.mul (E.var 1) (E.c (.int 31))) (E.var 2))]) (E.c (.int 1000003))))
@[reducible] def st_law_state_2 : C := (C.for_ (I.seq (E.var 0)) (G.nm 2) lp_law_state1)
@[reducible] def st_law_state_3 : C := (C.ret (E.shr (N.disp [(E.shr (N.comp (I.seqC (E.var 0)) (G.nm 2) [2] (ret true) (E.blt F.abs [(E.var 2)]))), (E.op O.add (E.var 1) (E.c (.int 1)))])))
def b_law_state : C := (C.seq (C.set 1 (E.c (.int 7))) (C.seq st_law_state_2 st_law_state_3))
def m_law_state : Fn := fn 3 1 b_law_state
end
theorem loop_ev (it : It) (hk : it.chk = none) : ∀ (cs : List Int) (A : Sl) (a : Int) (X : Sl), 0 ≤ a → a ≤ 1000003 → N.isOwn (some X) = false → ∃ (a' : Int) (X' : Sl), 0 ≤ a' ∧ a' ≤ 1000003 ∧ N.isOwn (some X') = false ∧ C.loop it (G.nm 2) lp_law_state1 (cs.map D.int) ⟨[A, .val (.int a), X], []⟩ = some (.nx, ⟨[A, .val (.int a'), X'], []⟩)
  | [], A, a, X, h0, h1, hX => ⟨a, X, h0, h1, hX, loop_nil hk⟩
  | c :: cs, A, a, X, h0, h1, hX => by
    obtain ⟨a', X', h2, h3, h5, h4⟩ := loop_ev it hk cs A ((a * 31 + c) % 1000003) (.val (.int c)) (by omega) (by omega) rfl
    refine ⟨a', X', h2, h3, h5, loop_cons hk rfl (f := .nx) (z2 := ⟨[A, .val (.int ((a * 31 + c) % 1000003)), .val (.int c)], []⟩) ?_ h4⟩
    unfold lp_law_state1
    exact cs_set (ev_mod (ev_blt1 (ev_add (ev_mul (ev_var rfl) ev_c (Smn.of (by omega)) (Smn.nat (by decide)) (by decide) (by decide)) (ev_var rfl)) lf_int1) ev_c (by decide)) rfl
theorem comp_ev (cs : List Int) (A B X : Sl) (hX : N.isOwn (some X) = false) (hA : A = .val (.scr (cs.map D.int))) (hl : cs.length ≤ 63) : N.comp (I.seqC (E.var 0)) (G.nm 2) [2] (Mi.ret true) (E.blt F.abs [(E.var 2)]) ⟨[A, B, X], []⟩ = some ((cs.map fun i => if i < 0 then -i else i).map D.int, ⟨[A, B, X], []⟩) := by
  subst hA
  have hl2 : (cs.map D.int).length ≤ szl := by
    rw [List.length_map]
    exact Nat.le_trans hl (by decide)
  have e := ev_comp (g := G.nm 2) (vs := [2]) (tt := Mi.ret true) (te := E.blt F.abs [(E.var 2)]) (z := ⟨[.val (.scr (cs.map D.int)), B, X], []⟩) (ev_seqC (x := .scr (cs.map D.int)) (ev_var (n := 0) rfl) rfl) hl2 (by show (!N.isOwn (some X) && true) = true; rw [hX]; rfl)
    (comp_loop rfl (fun _ => true) (fun d => match d with | .int i => .int (if i < 0 then -i else i) | d => d) ⟨[.val (.scr (cs.map D.int)), B, .no], []⟩ (fun d hd => ?_) _ [] fun d hd => hd)
  · rw [e]
    have e2 : (cs.map fun i => if i < 0 then -i else i).map D.int = [] ++ ((cs.map D.int).filter fun _ => true).map (fun d => match d with | .int i => .int (if i < 0 then -i else i) | d => d) := by
      rw [List.filter_eq_self.mpr (fun _ _ => rfl), List.nil_append, List.map_map, List.map_map]
      rfl
    rw [e2]
    rfl
  · obtain ⟨i, hi, rfl⟩ := List.mem_map.mp hd
    refine ⟨⟨[.val (.scr (cs.map D.int)), B, .val (.int i)], []⟩, _, ⟨[.val (.scr (cs.map D.int)), B, .val (.int i)], []⟩, rfl, rfl, fun _ => ⟨?_, rfl⟩, fun _ => rfl, fun h => nomatch h⟩
    exact ev_blt1 (ev_var rfl) lf_abs
theorem state_ev (ns : List Int) (hl : ns.length ≤ 63) : ∃ s : DS, m_law_state [.scr (ns.map D.int)] [] = some (.ref 1, stH s) := by
  obtain ⟨a', X', h2, h3, h4⟩ := loop_ev ⟨ns.map D.int, none⟩ rfl ns (.val (.scr (ns.map D.int))) 7 .no (by decide) (by decide) rfl
  refine ⟨⟨ns.map fun i => if i < 0 then -i else i, a' + 1, by omega⟩, ?_⟩
  obtain ⟨hX, h4⟩ := h4
  unfold m_law_state
  apply fn_rtH rfl
  unfold b_law_state
  refine cs_nx (cs_set ev_c rfl) ?_
  refine cs_nx (cs_for (ev_seq (ev_var rfl) rfl) h4) ?_
  exact cs_ret (ev_shr (ev_disp (ev_args (ev_shr (comp_ev ns _ _ X' hX rfl hl)) (ev_args (ev_add (ev_var rfl) ev_c) ev_args0 rfl) rfl))) rfl
end Dr
end Mi

set_option Elab.async false
set_option linter.all false
set_option maxRecDepth 100000
/-! Mi, part X: sorted, repr. -/
namespace Mi
open PySem PySem.Spec PyProof.Rows L2 PySem.W
/-- the key of a thing that can be sorted by itself -/
def pk (d : D) : PyData := (O.toP d).getD .none
def alikeB (ps : List PyData) : Bool := ps.all fun p => ps.all fun q => alike p q
def headTup : PyData → Bool
  | .tuple (_ :: _) => true
  | _ => false
def noTup : PyData → Bool
  | .none => false
  | .tuple _ => false
  | _ => true
def sortB (ps : List PyData) : Bool := ps.all headTup || ps.all noTup
def srtOk (ps : List PyData) : Bool := alikeB ps && sortB ps && ps.all fun p => decide (p.depth ≤ 40)
theorem alikeB_ok {ps : List PyData} (h : alikeB ps = true) : AllAlike ps := fun d hd e he =>
  List.all_eq_true.mp (List.all_eq_true.mp h d hd) e he
theorem sortB_ok {ps : List PyData} (h : sortB ps = true) : PySem.W.Sortable ps := by
  unfold sortB at h
  rw [Bool.or_eq_true] at h
  rcases h with h | h
  · refine .inl fun d hd => ?_
    have q := List.all_eq_true.mp h d hd
    unfold headTup at q
    split at q
    · exact ⟨_, _, rfl⟩
    · cases q
  · refine .inr fun d hd => ?_
    have q := List.all_eq_true.mp h d hd
    constructor
    · intro e; subst e; cases q
    · intro xs e; subst e; cases q
/-- the sorted list, stable -/
def srt (k : D → PyData) (ds : List D) : List D := ds.mergeSort (dataLe false k)
def N.sorted (m : M D) : M (List D) := bnd m fun x z => match cont x z with
  | some (false, ds) => match O.toPs ds with
    | some ps => if ds.length ≤ szl ∧ srtOk ps = true then some (srt pk ds, z) else none
    | none => none
  | _ => none
theorem toPs_pk : ∀ {ds : List D} {ps : List PyData}, O.toPs ds = some ps → ps = ds.map pk
  | [], ps, h => by cases h; rfl
  | d :: ds, ps, h => by
    rw [O.toPs] at h
    split at h
    · rename_i a as h1 h2
      cases h
      rw [List.map_cons, ← toPs_pk h2]
      unfold pk
      rw [h1]
      rfl
    · cases h
/-! the rule over the hand layer's heap -/
def rSrt (K : PySem.W.Frag) : List V → Hp → VK → Prop := fun vs H Q => ∃ (a : Addr) (xs : List V) (ds : List D) (T : V → D → Prop), vs = [V.ref a] ∧ SqL K H a xs ∧ EachIs (fun x d => Dp K H x (pk d) ∧ T x d) xs ds ∧
  AllAlike (ds.map pk) ∧ PySem.W.Sortable (ds.map pk) ∧ (∀ d ∈ ds, (pk d).depth ≤ 40) ∧ ∀ ys p, EachIs T ys (srt pk ds) → H p = none → Q (.ref p) (upd H p (.lst ys))
theorem each_raw {T : V → D → Prop} {S : Value → D → Prop} (f : ∀ x d u, T x d → RelV x u → S u d) : ∀ {xs : List V} {us : List Value} {ds : List D}, Vals xs us → EachIs T xs ds → EachIs S us ds
  | _, _, _, .nil, .nil => .nil
  | _, _, _, .cons r rs, .cons t ts => .cons (f _ _ _ t r) (each_raw f rs ts)
theorem each_abs {T : V → D → Prop} : ∀ {us : List Value} {ds : List D}, EachIs (fun u d => ∃ x, RelV x u ∧ T x d) us ds → ∃ xs, Vals xs us ∧ EachIs T xs ds
  | _, _, .nil => ⟨[], .nil, .nil⟩
  | _, _, .cons ⟨x, r, t⟩ h => by
    obtain ⟨xs, rs, ts⟩ := each_abs h
    exact ⟨x :: xs, .cons r rs, .cons t ts⟩
section
variable {X : Cx} {Tb : List (Addr × Str)}
theorem call_srt (hu : X.A.units + 64 < cLine) : CallR X (.builtin "sorted") (rSrt X.K) := by
  intro pn st sg Hh args raws Qq Iv rr hyp
  obtain ⟨a, xs, ds, T, rfl, hs, ea, hal, hso, hdp, q⟩ := hyp
  obtain ⟨its, rv, hl, hz⟩ := Iv.list hs
  rw [Vals.ref1 rr]
  have e1 : EachIs (fun u d => ∃ x, RelV x u ∧ T x d) its ds := each_raw (fun x d u t r => ⟨x, r, t.2⟩) rv ea
  have e2 : EachIs (fun u d => ∃ as, Reads st.heap u (pk d) as) its ds := each_raw (fun x d u t r => Dp.reads Iv (pk d) x u t.1 r) rv ea
  have lz : ds.length ≤ sizeLine := by rw [← ea.length]; exact hz
  refine PySem.W.sorted_data hl.isList e1 e2 hal hso lz (fun d hd => ?_) fun out hlen eo => ?_
  · have := hdp d hd; omega
  · obtain ⟨ys, ry, ey⟩ := each_abs eo
    obtain ⟨ep, hat⟩ := PyProof.Rows.sortedAll_at st.heap its (List.toArray out)
    have yl : ys.length ≤ sizeLine := by rw [ry.length, hlen]; exact lz
    exact ⟨.ref _, upd Hh (st.heap.objs.size + 1) (.lst ys), Iv.laid (t' := st.toks) (fun _ _ => PyProof.Rows.sortedAll_old) (Nat.le_succ _) ⟨yl, out, ep, ry, hat⟩, rfl, q _ _ ey (Iv.hok.fresh (Nat.le_succ _))⟩
theorem each_rps {K : Kx} {F : Hp} {rho : List Addr} : ∀ {ys : List V} {ds : List D}, EachIs (fun v d => Rp K F rho d v) ys ds → Rps K F rho ds ys
  | _, _, .nil => .nil
  | _, _, .cons h t => .cons h (each_rps t)
theorem rps_each {K : Kx} {F H : Hp} {rho : List Addr} (e : Same F H) : ∀ {ds : List D} {xs : List V} {ps : List PyData}, O.toPs ds = some ps → Rps K F rho ds xs → EachIs (fun x d => Dp K H x (pk d) ∧ Rp K F rho d x) xs ds
  | [], _, ps, _, .nil => .nil
  | d :: ds, _, ps, h, .cons r rs => by
    rw [O.toPs] at h
    split at h
    · rename_i a as h1 h2
      refine .cons ⟨?_, r⟩ (rps_each e h2 rs)
      unfold pk
      rw [h1]
      exact toP_ok e h1 r
    · cases h
theorem mf_sorted {p pos : Pos} {e : Expr} {m : M D} (hu : X.A.units + 64 < cLine) (hg : Gl X "sorted") (hm : X.mg "sorted" = none) (ha : PE X e (Te (kx X Tb) m)) (hv : bootBuiltins "sorted" = some (.builtin "sorted") := by decide +kernel)
    (he : starEach [e] X.env = (false, eval e X.env) :: starEach [] X.env := by rfl) (hpl : (backTo pos (starEach [] X.env)).any (·.1) = false := by rfl) : PE X (.Call (.Name "sorted" p) [e] [] pos) (Tf (kx X Tb) (N.sorted m)) := by
  refine pe_imp (pe_callB (call_srt hu) hg hm hv (pa_cons ha pa_nil he) (by decide) (by decide) he hpl) fun σ H Q ⟨B, F, rho, om, z, g⟩ => ?_
  refine (g.bnd.imp fun _ _ H1 _ _ v _ _ _ _ _ ⟨F2, rho2, z2, x, eg1, s1, p1, r1, g1⟩ => ?_).tx (R := rV (kx X Tb))
  obtain ⟨R, d, z4, e, k⟩ := g1
  dsimp only at e
  split at e
  · rename_i ds hc
    split at e
    · rename_i ps hp
      split at e
      · rename_i c
        cases e
        obtain ⟨a, xs, rfl, q, h⟩ := cont_ok R r1 hc
        obtain ⟨c1, c2⟩ := c
        unfold srtOk at c2
        rw [Bool.and_eq_true, Bool.and_eq_true] at c2
        rw [toPs_pk hp] at c2
        refine ⟨a, xs, ds, fun v d => Rp (kx X Tb) F2 rho2 d v, rfl, ?_, rps_each R.rh.fro hp q, alikeB_ok c2.1.1, sortB_ok c2.1.2, fun d hd => ?_, fun ys l ey hl => ?_⟩
        · rcases h with ⟨_, h⟩ | ⟨h, _⟩
          · exact h
          · cases h
        · exact of_decide_eq_true (List.all_eq_true.mp c2.2 _ (List.mem_map_of_mem hd))
        · obtain ⟨R2, f2⟩ := R.new (o := .lst ys) hl
          exact k F2 rho2 _ _ (Same.refl _) (List.prefix_refl _) R2 ⟨l, ys, rfl, upd_same, f2, each_rps ey⟩
      · cases e
    · cases e
  · cases e
/-! ### repr, outside any __repr__ -/
def rowP : PyData → Bool
  | .list _ => true
  | .tuple _ => true
  | _ => false
def rprOk (p : PyData) : Bool := rowP p && p.showable && !p.hasDict && decide (p.depth ≤ 40)
def F.repr : List D → Z → Option D
  | [x], z => match O.toP (O.snap x z) with
    | some p => if rprOk p = true ∧ p.shown.length ≤ sizeLine then some (.str p.shown) else none
    | none => none
  | _, _ => none
def rRpr (K : PySem.W.Frag) : List V → Hp → VK → Prop := fun vs H Q => ∃ (x : V) (p : PyData), vs = [x] ∧ Dp K H x p ∧ rprOk p = true ∧ p.shown.length ≤ sizeLine ∧ Q (.str p.shown) H
theorem call_rpr (hu : X.A.units + 64 < cLine) (gA : X.A.guards = some []) : CallR X (.builtin "repr") (rRpr X.K) := by
  intro pn st sg Hh args raws Qq Iv rr hyp
  obtain ⟨x, p, rfl, dp, c, hz, q⟩ := hyp
  obtain ⟨u, rfl, ru⟩ : ∃ u, raws = [u] ∧ RelV x u := by
    cases rr with
    | cons r1 r2 => cases r2; exact ⟨_, rfl, r1⟩
  obtain ⟨as, rd⟩ := Dp.reads Iv p x u dp ru
  unfold rprOk at c
  rw [Bool.and_eq_true, Bool.and_eq_true, Bool.and_eq_true] at c
  obtain ⟨⟨⟨c1, c2⟩, c3⟩, c4⟩ := c
  have c4 := of_decide_eq_true c4
  have nd : p.hasDict = false := by simpa using c3
  obtain ⟨a, rfl⟩ : ∃ a, u = Value.ref a := by
    cases dp with
    | lst _ _ => exact ⟨_, ru⟩
    | tup _ _ => exact ⟨_, ru⟩
    | non => cases c1
    | bl => cases c1
    | int => cases c1
    | str => cases c1
  refine repr_of_reads' rd c2 (PyData.noDict_hsm nd) gA (by omega) (fun _ _ z => z) (fun hp t tk keep => ?_) hz
  exact ⟨.str p.shown, Hh, Iv.kept keep, ⟨t, rfl⟩, q⟩
theorem f_repr (hu : X.A.units + 64 < cLine) (gA : X.A.guards = some []) : CallM X (.builtin "repr") F.repr := by
  refine ⟨_, call_rpr hu gA, ?_⟩
  intro Tb B F rho om z σ H xs vs d R r e Q k
  unfold Mi.F.repr at e
  split at e
  · obtain ⟨v, rfl, rv⟩ := rvs1 r
    split at e
    · rename_i p hp
      split at e
      · rename_i c
        cases e
        exact ⟨v, p, rfl, snap_ok R rv hp, c.1, c.2, k F H _ (Same.refl F) R (.pure (.str _))⟩
      · cases e
    · cases e
  · cases e
end
end Mi

set_option Elab.async false
set_option linter.all false
set_option maxRecDepth 100000
/-! Mi, part Y: the law's own def is called with nothing being shown (the guards are known to be none): repr may be asked in it. -/
namespace Mi
open PySem PySem.Spec PyProof.Rows L2 PySem.W
/-- the promise of a def at calls from outside any __repr__ -/
def GOk (P : Program) (w : World) (K : PySem.W.Frag) (mg : Str → Option Value) (base : Heap) (k : Nat) (f : Addr) (fd : FuncData) (ps : List Str) (sp : Sp) : Prop :=
  ∀ (A : Around) (env : List Env) (sh : Shared) (Hh : Hp) (ar : Args) (us : List Value) (xs : List V) (Qq : VK) (Ee : XK), A.guards = some [] → Room k A → Env0 P w K mg base A env sh Hh → BindsTo sh fd ar (ps.zip us) → Vals xs us →
    sp xs Hh Qq Ee → codeAny (model P w) A (.call (.ref f) ar) (CR CX0 env P w Hh sh Qq Ee) sh
section
variable {P : Program} {w : World} {K : PySem.W.Frag} {mg : Str → Option Value} {base : Heap}
theorem gok_of {x qual : Str} {st : Stmt} {f : Addr} {fd : FuncData} {N ps : List Str} {k : Nat} {sp : Sp} (F : Fun K x qual st f fd) (S : FnScope N ps (defScope st)) (len : ∀ xs Hh Qq Ee, sp xs Hh Qq Ee → xs.length = ps.length)
    (body : ∀ (cv : Value) (A : Around) (env : List Env) (sh : Shared) (Hh : Hp) (xs : List V) (Qq : VK) (Ee : XK), A.guards = some [] → Room k (A.deeper (envOfC qual (defScope st) sh.heap.objs.size f cv)) → sp xs Hh Qq Ee →
      ∃ t, PSs (cxOf CX0 P w K mg base N qual (defScope st) f cv A env sh Hh Ee).nox (defBody st) t ∧ t { nx := fun _ H2 => Qq .non H2, rt := Qq } (start N xs) Hh) : GOk P w K mg base (k + 1) f fd ps sp := by
  obtain ⟨c1, c2, c3, c4, c5, c6, cv, c7, c8, rfl, lk, hcd⟩ := F.ex
  intro A env sh Hh ar us xs Qq Ee gA room e0 bd rx hsp
  have xl := len _ _ _ _ hsp
  have kin : K.In sh.heap := e0.mod.kin.keeps fun p u q => (e0.bs p u q).1
  have lim : sh.heap.NoLimit := e0.mod.nolimit.keeps fun p u q => (e0.bs p u q).1
  have kinds : ∀ y ∈ ps.zip us, (defScope st).names.lookup y.1 = some .local ∨ ((defScope st).names.lookup y.1 = some .cell ∧ ((cellsFrom (sh.heap.objs.size + 1) (defScope st).names []).lookup y.1).isSome = true) := by
    rintro ⟨nm, vv⟩ hy
    have hm := (List.of_mem_zip hy).1
    cases S.par nm hm with
    | inl l => exact Or.inl l
    | inr c => exact Or.inr ⟨c, PySem.W.cellsFrom_some _ _ _ (Or.inl c)⟩
  apply codeAny_call_function room.depth (kin _ _ lk) rfl S.co S.gen rfl (PySem.W.codeRec_of kin hcd) (bd _ _ _ _ ?_)
  apply wpAny_newFunctionEnv_cells S.kind kinds
  intro en hen s2 xx
  subst hen
  refine And.intro (lim.keeps xx.toInCall.keep) (codeAny_func ?_)
  obtain ⟨t, pt, tq⟩ := body cv A env sh Hh xs Qq Ee gA (room.deeper _) hsp
  have Iv : Inv (cxOf CX0 P w K mg base N qual (defScope st) f cv A env sh Hh Ee) [] (start N xs) Hh s2 := inv_start S room.hd e0 xl rx xx
  apply wpAny_mono (pt.nox.run [] s2 (start N xs) Hh _ Iv tq) ?_ (fun _ _ q => q)
  intro fl s3 hs
  have done : ∀ {sg2 : L2.St} {H2 : Hp} {v : V} {u : Value}, Inv (cxOf CX0 P w K mg base N qual (defScope st) f cv A env sh Hh Ee) [] sg2 H2 s3 → RelV v u → Qq v H2 → CE env P w Hh sh Qq u s3 := by
    intro sg2 H2 v u J rv q
    exact ⟨v, H2, J.os, J.bare, J.base, J.hok, rv, q⟩
  match fl, hs with
  | .ret u, ⟨v, sg2, H2, J, rv, q⟩ => exact done J rv q
  | .next, ⟨sg2, H2, J, q⟩ => exact done (v := V.non) (u := Value.none) J rfl q
  | .brk, ⟨_, _, _, q⟩ => exact q.elim
  | .cont, ⟨_, _, _, q⟩ => exact q.elim
end
/-- a def by its body, where the body may ask for a repr -/
theorem fn_gok {P : Program} {w : World} {K : Kx} {mg : Str → Option Value} {base : Heap} {x qual : Str} {st : Stmt} {f : Addr} {fd : FuncData} {N ps : List Str} {k n kk : Nat} {b : C} (F : Fun K x qual st f fd) (S : FnScope N ps (defScope st)) (hn : N.length = n) (hk : ps.length = kk)
    (hb : ∀ (cv : Value) (A : Around) (env : List Env) (sh : Shared) (Hh : Hp) (Ee : XK), A.guards = some [] → Room k (A.deeper (envOfC qual (defScope st) sh.heap.objs.size f cv)) → PSs (cxOf CX0 P w K mg base N qual (defScope st) f cv A env sh Hh Ee).nox (defBody st) (Ts K b)) :
    GOk P w K mg base (k + 1) f fd ps (spM kk K (fn n kk b)) := by
  intro A env sh Hh ar us xs Qq Ee gA room e0 bd rx hsp
  have G : GOk P w K mg base (k + 1) f fd ps (spM kk K (fn n kk b)) := by
    subst hn hk
    refine gok_of F S (fun _ _ _ _ q => q.1) fun cv A env sh Hh xs Qq Ee gA room hsp => ⟨_, hb cv A env sh Hh Ee gA room, ?_⟩
    exact fn_body S hsp
  exact G A env sh Hh ar us xs Qq Ee gA room e0 bd rx hsp
/-- the law's tables of code objects, as the head leaves them: code object, table, the code's name -/
structure Cs where
  c : Addr
  p : Addr
  q : Str
def tbs (cs : List Cs) : List (Addr × Str) := cs.map fun z => (z.p, z.q)
/-- at the head's end -/
structure CsOk (K : PySem.W.Frag) (hp : Heap) (cs : List Cs) : Prop where
  tab : ∀ z ∈ cs, hp.get? z.p = some (PySem.W.tabObj #[])
  notK : ∀ z ∈ cs, K.lookup z.p = none
  code : ∀ z ∈ cs, PySem.W.CodeHd hp z.c z.p
  one : ∀ z ∈ cs, ∀ y ∈ cs, z.p = y.p → z.q = y.q
theorem CsOk.nil {K : PySem.W.Frag} {hp : Heap} : CsOk K hp [] := ⟨(fun _ h => nomatch h), (fun _ h => nomatch h), (fun _ h => nomatch h), fun _ h => nomatch h⟩
/-- the main module's namespace of built-ins -/
def BMain (mg : Str → Option Value) (hp : Heap) : Prop := ∃ (bm : Addr) (ob : Obj), mg "__builtins__" = some (.ref bm) ∧ bm ≠ builtinsNs ∧ hp.get? bm = some ob ∧ ob.cls = .type "module" ∧ ob.dict = some builtinsNs ∧ ob.data = .plain
/-- the law's row at its call; the heap Hh in which at most the script and the tables are seen -/
theorem row_at {P : Program} {w : World} {K : PySem.W.Frag} {mg mb : Str → Option Value} {k : Nat} {fa a : Addr} {fd : FuncData} {x : Str} {sp : Sp} {sh : Shared} {us : List Value} {Hh : Hp} {cs : List Cs}
    (kin : K.In sh.heap) (nm : sh.heap.Ns mainGlobals mg) (nb : sh.heap.Ns builtinsNs mb) (nbb : ∀ y : Str, y ≠ "__name__" → mb y = bootBuiltins y) (lim : sh.heap.NoLimit) (gens : sh.gens = #[]) (ck : CsOk K sh.heap cs) (bmn : BMain mg sh.heap)
    (scr : sh.heap.get? a = some { cls := .type "list", data := .seq us.toArray }) (room : Room k callerA)
    (F : ∀ base : Heap, K.In base → base.Ns mainGlobals mg → (∀ z ∈ cs, LamX.TabB base mg z.c z.p) → GOk P w K mg base k fa fd [x] sp) (bind : ∀ (s2 : Shared) (u : Value), BindsTo s2 fd ⟨[u], []⟩ [(x, u)])
    (only : ∀ b, Hh b = none ∨ (∃ z ∈ cs, z.p = b) ∨ ∃ ob ys, Hh b = some (.frz ob ys)) (hok : HOk P w Hh sh.heap) (seen : ∀ b, Hh b ≠ none → b = a ∨ ∃ z ∈ cs, z.p = b) (new : Hh a ≠ none → K.lookup a = none) (hT : ∀ z ∈ cs, Hh z.p = some (.tbl #[])) (pr : sp [.ref a] Hh (fun v _ => v = .bl true) fun _ _ _ => False) :
    codeAny (model P w) callerA (.call (.ref fa) ⟨[.ref a], []⟩) (fun rs s2 => rs = .ok (.ret (.bool true)) ∧ OldK sh.heap s2.heap ∧ s2.os = sh.os ∧ AllBare s2.gens) sh := by
  have keeps : ∀ {b : Addr} {o : Obj}, sh.heap.get? b = some o → (∀ ys m, o.data ≠ .seq ys m) → o.data ≠ .fields #[] → (hidT sh.heap Hh).get? b = some o := by
    intro b o p n1 n2
    refine hidT_get p ?_
    cases hb : Hh b with
    | none => rfl
    | some u =>
      rcases seen b (by rw [hb]; exact Option.some_ne_none u) with rfl | ⟨z, hz, rfl⟩
      · rw [scr] at p
        cases p
        exact (n1 _ _ rfl).elim
      · rw [ck.tab z hz] at p
        cases p
        exact (n2 rfl).elim
  have nsHid : ∀ {b : Addr} {m : Str → Option Value}, sh.heap.Ns b m → (hidT sh.heap Hh).Ns b m := by
    rintro b m ⟨o, es, ep, p, dd, rr⟩
    exact ⟨o, es, ep, keeps p (fun ys n c => by rw [dd] at c; cases c) (fun c => by rw [dd] at c; cases c), dd, rr⟩
  have kinHid : K.In (hidT sh.heap Hh) := by
    intro b o lk
    refine hidT_get (kin b o lk) ?_
    cases hb : Hh b with
    | none => rfl
    | some u =>
      rcases seen b (by rw [hb]; exact Option.some_ne_none u) with rfl | ⟨z, hz, rfl⟩
      · rw [new (by rw [hb]; exact Option.some_ne_none u)] at lk
        cases lk
      · rw [ck.notK z hz] at lk
        cases lk
  have md : Mod K mg (hidT sh.heap Hh) := by
    refine ⟨kinHid, nsHid nm, ⟨mb, nsHid nb, nbb⟩, ?_⟩
    obtain ⟨mc, l1, l2⟩ := lim
    exact ⟨mc, nsHid l1, l2⟩
  have tb : ∀ z ∈ cs, LamX.TabB (hidT sh.heap Hh) mg z.c z.p := by
    intro z hz
    have hP := ck.tab z hz
    refine ⟨?_, ?_, fun c => ?_⟩
    · obtain ⟨o, fs, fl, t1, g1, t2, i1, x1, t3, q0, q1, q2, q3, qs⟩ := ck.code z hz
      refine ⟨o, fs, fl, t1, g1, t2, i1, x1, t3, keeps q0 (fun ys n c => by rw [q2] at c; cases c) (fun c => ?_), q1, q2, q3, qs⟩
      rw [q2] at c
      cases c
      simp at q3
    · obtain ⟨bm, ob, q1, q2, q3, q4, q5, q6⟩ := bmn
      refine ⟨bm, ob, q1, q2, fun c => ?_, fun c => ?_, keeps q3 (fun ys n c => by rw [q6] at c; cases c) (fun c => by rw [q6] at c; cases c), q4, q5, q6⟩
      · obtain ⟨o, es, ep, p, dd, _⟩ := nm
        rw [c, p] at q3
        cases q3
        rw [dd] at q6
        cases q6
      · rw [c, hP] at q3
        cases q3
        cases q6
    · obtain ⟨o, es, ep, p, dd, _⟩ := nm
      rw [c, hP] at p
      cases p
      cases dd
  have e0 : Env0 P w K mg (hidT sh.heap Hh) callerA [] sh Hh :=
    { frames := rfl, mod := md, bs := fun _ _ p => of_hidT p, bsz := Nat.le_of_eq (hidT_size _ _), funs := trivial, frf := fun b hb => absurd hb List.not_mem_nil, hok := hok, bare := .of_eq gens }
  have run := F _ kinHid (nsHid nm) tb callerA [] sh Hh ⟨[.ref a], []⟩ [.ref a] [.ref a] _ _ rfl room e0 (bind sh (.ref a)) (.cons rfl .nil) pr
  apply codeAny_mono run
  intro rs s2 hr
  match rs, hr with
  | .error e, hr => exact False.elim hr
  | .ok .next, hr => exact False.elim hr
  | .ok .brk, hr => exact False.elim hr
  | .ok .cont, hr => exact False.elim hr
  | .ok (.ret u), ⟨v, H2, os, bare, un, hok2, rv, q⟩ =>
    have q : v = .bl true := q
    subst q
    have rv : u = Value.bool true := rv
    subst rv
    have grow : ∀ z ∈ cs, ∃ vs : Array Value, s2.heap.get? z.p = some (PySem.W.tabObj vs) := by
      intro z hz
      obtain ⟨vs, e⟩ := un.tbls z.p #[] (hT z hz)
      exact ⟨_, hok2 z.p _ e⟩
    have same : ∀ {b : Addr} {o : Obj}, (¬ ∃ z ∈ cs, z.p = b) → sh.heap.get? b = some o → s2.heap.get? b = some o := by
      intro b o nz p
      rcases only b with c | c | ⟨ob, ys, c⟩
      · exact un.keep b o p c (fun z => absurd z List.not_mem_nil) List.not_mem_nil
      · exact absurd c nz
      · have p1 := (hok b _ c).1
        have p2 := (hok2 b _ (un.frzs b ob _ c)).1
        rw [p] at p1
        cases p1
        exact p2
    refine ⟨rfl, ⟨fun b o p => ?_, fun b o p => ?_⟩, os, bare⟩
    · by_cases c : ∃ z ∈ cs, z.p = b
      · obtain ⟨z, hz, rfl⟩ := c
        obtain ⟨vs, e⟩ := grow z hz
        rw [ck.tab z hz] at p
        cases p
        exact .inr (.inl ⟨((ck.code z hz).tab (ck.tab z hz)).isCodeTable, rfl, #[], vs, rfl, by simpa using e⟩)
      · exact .inl (same c p)
    · by_cases c : ∃ z ∈ cs, z.p = b
      · obtain ⟨z, hz, rfl⟩ := c
        obtain ⟨vs, e⟩ := grow z hz
        exact ⟨_, e⟩
      · exact ⟨o, same c p⟩
theorem row_call {P : Program} {w : World} {K : PySem.W.Frag} {mg mb : Str → Option Value} {k : Nat} {fa a : Addr} {fd : FuncData} {x : Str} {sp : Sp} {sh : Shared} {us : List Value} {ns : List Int} {cs : List Cs}
    (kin : K.In sh.heap) (nm : sh.heap.Ns mainGlobals mg) (nb : sh.heap.Ns builtinsNs mb) (nbb : ∀ y : Str, y ≠ "__name__" → mb y = bootBuiltins y) (lim : sh.heap.NoLimit) (gens : sh.gens = #[]) (ck : CsOk K sh.heap cs) (bmn : BMain mg sh.heap)
    (scr : sh.heap.get? a = some { cls := .type "list", data := .seq us.toArray }) (iar : IntsAre us ns) (short : ns.length ≤ sizeLine) (room : Room k callerA)
    (F : ∀ base : Heap, K.In base → base.Ns mainGlobals mg → (∀ z ∈ cs, LamX.TabB base mg z.c z.p) → GOk P w K mg base k fa fd [x] sp) (bind : ∀ (s2 : Shared) (u : Value), BindsTo s2 fd ⟨[u], []⟩ [(x, u)])
    (pr : ∀ Hh : Hp, (∀ z ∈ cs, Hh z.p = some (.tbl #[])) → SqL K Hh a (ns.map V.int) → sp [.ref a] Hh (fun v _ => v = .bl true) fun _ _ _ => False) :
    codeAny (model P w) callerA (.call (.ref fa) ⟨[.ref a], []⟩) (fun rs s2 => rs = .ok (.ret (.bool true)) ∧ OldK sh.heap s2.heap ∧ s2.os = sh.os ∧ AllBare s2.gens) sh := by
  have rv := L2.vals_ints iar
  have nl : (ns.map V.int).length ≤ sizeLine := by rw [List.length_map]; exact short
  have aT : ¬ ∃ z ∈ cs, z.p = a := by
    rintro ⟨z, hz, rfl⟩
    have := ck.tab z hz
    rw [scr] at this
    cases this
  classical
  cases hk : K.lookup a with
  | some o =>
    have p := kin a o hk
    rw [scr] at p
    cases p
    have ul : us.toArray.size ≤ sizeLine := by rw [List.size_toArray, iar.length]; exact short
    have rv2 : Vals (ns.map V.int) us.toArray.toList := by simpa using rv
    let Ht : Hp := fun b => if ∃ z ∈ cs, z.p = b then some (.tbl #[]) else none
    have hT : ∀ z ∈ cs, Ht z.p = some (.tbl #[]) := fun z hz => if_pos ⟨z, hz, rfl⟩
    have off : ∀ {b : Addr}, (¬ ∃ z ∈ cs, z.p = b) → Ht b = none := fun c => if_neg c
    refine row_at (cs := cs) kin nm nb nbb lim gens ck bmn scr room F bind (Hh := Ht) (fun b => ?_) (fun b u e => ?_) (fun b e => ?_) (fun e => absurd (off aT) e) hT (pr _ hT (.inr ⟨_, us.toArray, _, hk, rfl, rfl, rfl, ul, rv2⟩))
    · by_cases c : ∃ z ∈ cs, z.p = b
      · exact .inr (.inl c)
      · exact .inl (off c)
    · by_cases c : ∃ z ∈ cs, z.p = b
      · obtain ⟨z, hz, rfl⟩ := c
        rw [hT z hz] at e
        cases e
        exact ck.tab z hz
      · rw [off c] at e
        cases e
    · by_cases c : ∃ z ∈ cs, z.p = b
      · exact .inr c
      · exact absurd (off c) e
  | none =>
    let Hs : Hp := fun b => if b = a then some (.frz { cls := .type "list", data := .seq us.toArray } (.lst (ns.map V.int))) else if ∃ z ∈ cs, z.p = b then some (.tbl #[]) else none
    have atA : Hs a = some (.frz { cls := .type "list", data := .seq us.toArray } (.lst (ns.map V.int))) := if_pos rfl
    have hT : ∀ z ∈ cs, Hs z.p = some (.tbl #[]) := fun z hz => (if_neg fun c => aT ⟨z, hz, c⟩).trans (if_pos ⟨z, hz, rfl⟩)
    have off : ∀ {b : Addr}, b ≠ a → (¬ ∃ z ∈ cs, z.p = b) → Hs b = none := fun n c => (if_neg n).trans (if_neg c)
    refine row_at (cs := cs) kin nm nb nbb lim gens ck bmn scr room F bind (Hh := Hs) (fun b => ?_) (fun b u e => ?_) (fun b e => ?_) (fun _ => hk) hT (pr Hs hT (.inl (.inr ⟨_, atA⟩)))
    · by_cases hb : b = a
      · subst hb; exact .inr (.inr ⟨_, _, atA⟩)
      · by_cases c : ∃ z ∈ cs, z.p = b
        · exact .inr (.inl c)
        · exact .inl (off hb c)
    · by_cases hb : b = a
      · subst hb
        rw [atA] at e
        cases e
        exact ⟨scr, nl, us, _, rv, scr⟩
      · by_cases c : ∃ z ∈ cs, z.p = b
        · obtain ⟨z, hz, rfl⟩ := c
          rw [hT z hz] at e
          cases e
          exact ck.tab z hz
        · rw [off hb c] at e
          cases e
    · by_cases hb : b = a
      · exact .inl hb
      · by_cases c : ∃ z ∈ cs, z.p = b
        · exact .inr c
        · exact absurd (off hb c) e
/-- the end of a law's row -/
theorem walkT {l : PySem.W.OpenLaw} {k : Nat} {q : Program} {loose : List Str} {XP : (Str → Option Value) → Heap → Prop} {YP : World → Heap → Prop} {d : DefRec} {K : Params → PySem.W.Frag} {x : Str} {mf : Fn} (most : l.most = some 63) (nodef : d.params.defaults = []) (room : Room k callerA)
    (inY : ∀ (w : World) (hp : Heap), YP w hp → (K w.params).In hp)
    (F : ∀ (w : World) (mg : Str → Option Value) (fa : Addr) (hp : Heap), YP w hp → (K w.params).In hp → hp.Ns mainGlobals mg → mg d.name = some (.ref fa) →
      ∃ (fd : FuncData) (cs : List Cs), CsOk (K w.params) hp cs ∧ (∀ (sh : Shared) (u : Value), BindsTo sh fd ⟨[u], []⟩ [(x, u)]) ∧ ∀ base : Heap, (K w.params).In base → base.Ns mainGlobals mg → (∀ z ∈ cs, LamX.TabB base mg z.c z.p) → GOk l.prog w (K w.params) mg base k fa fd [x] (spM 1 ⟨K w.params, tbs cs⟩ mf))
    (law : ∀ ns : List Int, ns.length ≤ 63 → ∃ h', mf [.scr (ns.map D.int)] [] = some (.bl true, h')) : PySem.W.WalkO q loose XP YP l.row.toRowW d [] (fun f vs => PySem.call f vs) := by
  apply Att.attach_call most nodef
  intro w s0 s1 mg mb fa o pm cd doc a us ns G Y ho hd hcd hmg scr iar short gens
  have kin := inY w _ Y
  obtain ⟨fd, cs, ck, hb, hF⟩ := F w mg fa _ Y kin G.T.g hmg
  refine row_call kin G.T.g G.T.b G.T.builtins G.T.nolimit gens ck G.T.bmain scr iar (Nat.le_trans short (by decide)) room hF hb fun Hh hT sq => ?_
  obtain ⟨h2, e⟩ := law ns short
  have rh : Rh ⟨K w.params, tbs cs⟩ (fun b => if ∃ z ∈ cs, z.p = b then none else Hh b) [] [] Hh := by
    classical
    refine ⟨fun b o e => ?_, rfl, (fun _ _ _ h => by simp at h), (fun _ _ _ h => by simp at h), (fun _ _ h => by simp at h), ⟨fun p hp => ?_, fun p hp y hy c => ?_, fun p hp => ?_⟩, fun _ _ _ h => by simp at h⟩
    · split at e
      · cases e
      · exact e
    · obtain ⟨z, hz, rfl⟩ := List.mem_map.mp hp
      refine ⟨#[], hT z hz, True.intro, fun pos cv hc => ?_⟩
      have hc : codeAmong pos [] = some cv := hc
      simp [codeAmong] at hc
    · obtain ⟨z, hz, rfl⟩ := List.mem_map.mp hp
      obtain ⟨z2, hz2, rfl⟩ := List.mem_map.mp hy
      exact ck.one z hz z2 hz2 c
    · obtain ⟨z, hz, rfl⟩ := List.mem_map.mp hp
      exact if_pos ⟨z, hz, rfl⟩
  have sq2 : SqL (K w.params) (fun b => if ∃ z ∈ cs, z.p = b then none else Hh b) a (ns.map V.int) := by
    have na : ¬ ∃ z ∈ cs, z.p = a := by
      rintro ⟨z, hz, rfl⟩
      have := ck.tab z hz
      rw [scr] at this
      cases this
    rcases sq with (sq | ⟨o, sq⟩) | sq
    · exact .inl (.inl ((if_neg na).trans sq))
    · exact .inl (.inr ⟨o, (if_neg na).trans sq⟩)
    · exact .inr sq
  exact ⟨rfl, _, [], [], [.scr (ns.map D.int)], rh, .one (.scr sq2 (.ints ns)), _, h2, e, fun _ _ _ v _ _ _ _ _ _ r => by cases r; rfl⟩
/-- .. where there is no table -/
theorem walkG {l : PySem.W.OpenLaw} {k : Nat} {q : Program} {loose : List Str} {XP : (Str → Option Value) → Heap → Prop} {YP : World → Heap → Prop} {d : DefRec} {K : Params → PySem.W.Frag} {x : Str} {mf : Fn} (most : l.most = some 63) (nodef : d.params.defaults = []) (room : Room k callerA)
    (inY : ∀ (w : World) (hp : Heap), YP w hp → (K w.params).In hp)
    (F : ∀ (w : World) (mg : Str → Option Value) (fa : Addr) (hp : Heap), (K w.params).In hp → hp.Ns mainGlobals mg → mg d.name = some (.ref fa) →
      ∃ fd : FuncData, (∀ (sh : Shared) (u : Value), BindsTo sh fd ⟨[u], []⟩ [(x, u)]) ∧ ∀ base : Heap, (K w.params).In base → base.Ns mainGlobals mg → GOk l.prog w (K w.params) mg base k fa fd [x] (spM 1 ⟨K w.params, []⟩ mf))
    (law : ∀ ns : List Int, ns.length ≤ 63 → ∃ h', mf [.scr (ns.map D.int)] [] = some (.bl true, h')) : PySem.W.WalkO q loose XP YP l.row.toRowW d [] (fun f vs => PySem.call f vs) :=
  walkT most nodef room inY (fun w mg fa hp _ k1 k2 k3 => by
    obtain ⟨fd, h1, h2⟩ := F w mg fa hp k1 k2 k3
    exact ⟨fd, [], .nil, h1, fun base b1 b2 _ => h2 base b1 b2⟩) law
/-- a def's promise, as one from outside any __repr__ -/
theorem FnOk.g {P : Program} {w : World} {K : PySem.W.Frag} {mg : Str → Option Value} {base : Heap} {k : Nat} {f : Addr} {fd : FuncData} {ps : List Str} {sp : Sp} (h : FnOk P w K mg base CX0 k f fd ps sp) : GOk P w K mg base k f fd ps sp :=
  fun A env sh Hh ar us xs Qq Ee _ room e0 bd rx hsp => h.run A env sh Hh ar us xs Qq Ee room e0 bd rx hsp
end Mi

set_option Elab.async false
set_option linter.all false
set_option maxRecDepth 100000
/-! Mi, part Z: statements by what holds behind them. -/
namespace Mi
open PySem L2
/-- c runs to an end of which Φ holds -/
def Dz (c : C) (z : Z) (Φ : Fl → Z → Prop) : Prop := ∃ f z', c z = some (f, z') ∧ Φ f z'
section
variable {a b c : C} {z z1 : Z} {Φ Ψ : Fl → Z → Prop}
theorem Dz.of {f : Fl} (h : c z = some (f, z1)) (q : Φ f z1) : Dz c z Φ := ⟨f, z1, h, q⟩
theorem Dz.imp (h : Dz c z Ψ) (k : ∀ f z1, Ψ f z1 → Φ f z1) : Dz c z Φ := by
  obtain ⟨f, z1, e, q⟩ := h
  exact ⟨f, z1, e, k f z1 q⟩
theorem Dz.nx (h : a z = some (.nx, z1)) (k : Dz b z1 Φ) : Dz (C.seq a b) z Φ := by
  obtain ⟨f, z2, e, q⟩ := k
  exact ⟨f, z2, cs_nx h e, q⟩
theorem Dz.rt {d : D} (h : a z = some (.rt d, z1)) (q : Φ (.rt d) z1) : Dz (C.seq a b) z Φ := ⟨_, _, cs_rt h, q⟩
/-- behind a: on, or out -/
def onTo (b : C) (Φ : Fl → Z → Prop) : Fl → Z → Prop := fun f z => match f with
  | .nx => Dz b z Φ
  | f => Φ f z
theorem Dz.seq (h : Dz a z (onTo b Φ)) : Dz (C.seq a b) z Φ := by
  obtain ⟨f, z1, e, q⟩ := h
  cases f with
  | nx =>
    obtain ⟨f, z2, e2, q⟩ := (show Dz b z1 Φ from q)
    exact ⟨f, z2, cs_nx e e2, q⟩
  | rt d => exact ⟨_, _, cs_rt e, q⟩
  | bk => exact ⟨_, _, cs_bk e, q⟩
  | ct => exact ⟨_, _, cs_ct e, q⟩
/-- .. where a goes on -/
theorem Dz.thn {R : Z → Prop} (h : Dz a z fun f z1 => f = .nx ∧ R z1) (k : ∀ z1, R z1 → Dz b z1 Φ) : Dz (C.seq a b) z Φ := by
  refine Dz.seq (h.imp fun f z1 q => ?_)
  obtain ⟨rfl, q⟩ := q
  exact k z1 q
theorem Dz.ite {t : M Bool} {p : Bool} (h : t z = some (p, z1)) (hT : p = true → Dz a z1 Φ) (hF : p = false → Dz b z1 Φ) : Dz (C.ite t a b) z Φ := by
  cases p with
  | true =>
    obtain ⟨f, z2, e, q⟩ := hT rfl
    exact ⟨f, z2, cs_iteT h e, q⟩
  | false =>
    obtain ⟨f, z2, e, q⟩ := hF rfl
    exact ⟨f, z2, cs_iteF h e, q⟩
theorem Dz.skip (q : Φ .nx z) : Dz C.skip z Φ := ⟨_, _, cs_skip, q⟩
theorem Dz.brk (q : Φ .bk z) : Dz C.brk z Φ := ⟨_, _, rfl, q⟩
theorem Dz.cnt (q : Φ .ct z) : Dz C.cnt z Φ := ⟨_, _, rfl, q⟩
/-- the end of a turn -/
def turn (I : Z → Prop) (Φ : Fl → Z → Prop) : Fl → Z → Prop := fun f z => match f with
  | .nx => I z
  | .ct => I z
  | .bk => Φ .nx z
  | .rt d => Φ (.rt d) z
theorem Dz.loop {it : It} {g : G} (hk : it.chk = none) (I : List D → Z → Prop) (step : ∀ d ds z, I (d :: ds) z → ∃ z1, g.run d z = some z1 ∧ Dz b z1 (turn (I ds) Φ)) (fin : ∀ z, I [] z → Φ .nx z) : ∀ (ds : List D) (z : Z), I ds z → Dz (C.loop it g b ds) z Φ
  | [], z, h => ⟨_, _, loop_nil hk, fin z h⟩
  | d :: ds, z, h => by
    obtain ⟨z1, e1, f, z2, e2, q⟩ := step d ds z h
    cases f with
    | nx =>
      obtain ⟨f, z3, e3, q3⟩ := Dz.loop hk I step fin ds z2 q
      exact ⟨f, z3, loop_cons hk e1 e2 e3, q3⟩
    | ct =>
      obtain ⟨f, z3, e3, q3⟩ := Dz.loop hk I step fin ds z2 q
      exact ⟨f, z3, loop_cons hk e1 e2 e3, q3⟩
    | bk => exact ⟨_, _, loop_cons hk e1 e2 rfl, q⟩
    | rt d => exact ⟨_, _, loop_cons hk e1 e2 rfl, q⟩
theorem Dz.for_ {mi : M It} {it : It} {g : G} (h : mi z = some (it, z1)) (hk : it.chk = none) (I : List D → Z → Prop) (h0 : I it.items z1) (step : ∀ d ds z, I (d :: ds) z → ∃ z1, g.run d z = some z1 ∧ Dz b z1 (turn (I ds) Φ)) (fin : ∀ z, I [] z → Φ .nx z) : Dz (C.for_ mi g b) z Φ := by
  obtain ⟨f, z2, e, q⟩ := Dz.loop hk I step fin it.items z1 h0
  exact ⟨f, z2, cs_for h e, q⟩
theorem rg_len (a : Int) (n : Nat) : (I.irng a n).length = n := by unfold I.irng; rw [List.length_map, List.length_range]
theorem rg_get {a : Int} {n k : Nat} (h : k < n) : (I.irng a n)[k]? = some (.int (a + k)) := by
  unfold I.irng
  rw [List.getElem?_map, List.getElem?_range h]
  rfl
theorem drop_cons {α : Type} {l ds : List α} {d : α} {k : Nat} (h : l.drop k = d :: ds) : k < l.length ∧ l[k]? = some d ∧ ds = l.drop (k + 1) := by
  have h1 : k < l.length := by
    have := congrArg List.length h
    rw [List.length_drop, List.length_cons] at this
    omega
  rw [List.drop_eq_getElem_cons h1] at h
  injection h with h2 h3
  exact ⟨h1, by rw [List.getElem?_eq_getElem h1, h2], h3.symm⟩
/-- for over a range, by an invariant over the turns made -/
theorem Dz.rng {mi : M It} {g : G} {a : Int} {n : Nat} (h : mi z = some (⟨I.irng a n, none⟩, z1)) (I : Nat → Z → Prop) (h0 : I 0 z1) (step : ∀ k z, k < n → I k z → ∃ z1, g.run (.int (a + k)) z = some z1 ∧ Dz b z1 (turn (I (k + 1)) Φ)) (fin : ∀ z, I n z → Φ .nx z) : Dz (C.for_ mi g b) z Φ := by
  refine Dz.for_ h rfl (fun ds z => ∃ k, k ≤ n ∧ ds = (Mi.I.irng a n).drop k ∧ I k z) ⟨0, Nat.zero_le _, rfl, h0⟩ ?_ ?_
  · rintro d ds z ⟨k, hk, hd, hI⟩
    obtain ⟨h1, h2, h3⟩ := drop_cons hd.symm
    rw [rg_len] at h1
    rw [rg_get h1] at h2
    cases h2
    obtain ⟨z2, e, q⟩ := step k z h1 hI
    exact ⟨z2, e, q.imp fun f z3 r => by
      cases f with
      | nx => exact ⟨k + 1, h1, h3, r⟩
      | ct => exact ⟨k + 1, h1, h3, r⟩
      | bk => exact r
      | rt d => exact r⟩
  · rintro z ⟨k, hk, hd, hI⟩
    have : n ≤ k := by
      have := congrArg List.length hd
      rw [List.length_drop, rg_len] at this
      simp at this
      omega
    have : k = n := by omega
    subst this
    exact fin z hI
/-- for over a list, by an invariant over what is done and what is left -/
theorem Dz.each {mi : M It} {g : G} {xs : List D} (h : mi z = some (⟨xs, none⟩, z1)) (I : Nat → Z → Prop) (h0 : I 0 z1) (step : ∀ k d z, xs[k]? = some d → I k z → ∃ z1, g.run d z = some z1 ∧ Dz b z1 (turn (I (k + 1)) Φ)) (fin : ∀ z, I xs.length z → Φ .nx z) : Dz (C.for_ mi g b) z Φ := by
  refine Dz.for_ h rfl (fun ds z => ∃ k, k ≤ xs.length ∧ ds = xs.drop k ∧ I k z) ⟨0, Nat.zero_le _, rfl, h0⟩ ?_ ?_
  · rintro d ds z ⟨k, hk, hd, hI⟩
    obtain ⟨h1, h2, h3⟩ := drop_cons hd.symm
    obtain ⟨z2, e, q⟩ := step k d z h2 hI
    exact ⟨z2, e, q.imp fun f z3 r => by
      cases f with
      | nx => exact ⟨k + 1, h1, h3, r⟩
      | ct => exact ⟨k + 1, h1, h3, r⟩
      | bk => exact r
      | rt d => exact r⟩
  · rintro z ⟨k, hk, hd, hI⟩
    have : xs.length ≤ k := by
      have := congrArg List.length hd
      rw [List.length_drop] at this
      simp at this
      omega
    have : k = xs.length := by omega
    subst this
    exact fin z hI
/-- while, by a measure -/
theorem Dz.whl {t : M Bool} (I : Nat → Z → Prop) (step : ∀ n z, I n z → ∃ p z1, t z = some (p, z1) ∧ (p = true → Dz b z1 (turn (fun z2 => ∃ m, m < n ∧ I m z2) Φ)) ∧ (p = false → Φ .nx z1)) : ∀ (n : Nat) (z : Z), I n z → Dz (C.whl t b) z Φ := by
  intro n
  induction n using Nat.strongRecOn with
  | ind n ih =>
    intro z h
    obtain ⟨p, z1, e, hT, hF⟩ := step n z h
    cases p with
    | false => exact ⟨_, _, whl_f e, hF rfl⟩
    | true =>
      obtain ⟨f, z2, e2, q⟩ := hT rfl
      cases f with
      | nx =>
        obtain ⟨m, hm, q⟩ := q
        obtain ⟨f, z3, e3, q3⟩ := ih m hm z2 q
        exact ⟨f, z3, whl_t e e2 e3, q3⟩
      | ct =>
        obtain ⟨m, hm, q⟩ := q
        obtain ⟨f, z3, e3, q3⟩ := ih m hm z2 q
        refine ⟨f, z3, ?_, q3⟩
        rw [C.whl, e]
        dsimp only
        rw [e2]
        exact e3
      | bk => exact ⟨_, _, whl_bk e e2, q⟩
      | rt d => exact ⟨_, _, whl_rt e e2, q⟩
/-- a def by its body -/
theorem Dz.fn {n k : Nat} {ds h : List D} {R : D → List D → Prop} (hl : ds.length = k) (hb : Dz c ⟨slots n ds, h⟩ fun f z => match f with | .nx => R .non z.h | .rt d => R d z.h | _ => False) : ∃ d h', fn n k c ds h = some (d, h') ∧ R d h' := by
  obtain ⟨f, z', e, q⟩ := hb
  cases f with
  | nx => exact ⟨.non, z'.h, by unfold Mi.fn; rw [if_pos hl, e], q⟩
  | rt d => exact ⟨d, z'.h, by unfold Mi.fn; rw [if_pos hl, e], q⟩
  | bk => exact q.elim
  | ct => exact q.elim
theorem Dz.ends {d : D} (h : Dz c z fun f _ => f = .rt d) : Mi.Ends c z d := by
  obtain ⟨f, z1, e, rfl⟩ := h
  exact ⟨z1, e⟩
theorem Dz.end_ {d : D} (h : Mi.Ends c z d) (q : ∀ z1, Φ (.rt d) z1) : Dz c z Φ := by
  obtain ⟨z1, e⟩ := h
  exact ⟨_, _, e, q z1⟩
end
end Mi

set_option Elab.async false
set_option linter.all false
set_option maxRecDepth 100000
set_option maxHeartbeats 2000000
/-! Mi, part S: the common draws from a stream of small numbers. -/
namespace Mi
open PySem L2
local macro_rules | `(tactic| wtm_at "leaf") => `(tactic| first
  | ((with_reducible apply lf_cont); rfl)
  | (with_reducible exact atI_zero)
  | ((with_reducible apply lf_dcont); rfl)
  | ((with_reducible apply lf_dcS); rfl)
  | ((with_reducible apply lf_dgetC); rfl)
  | ((with_reducible apply lf_keyD); rfl)
  | ((with_reducible apply lf_isDict); rfl)
  | ((with_reducible apply lf_dkeys); rfl)
  | ((with_reducible apply lf_atI); first | rfl | exact atI_zero)
  | ((with_reducible apply lf_get); rfl)
  | ((with_reducible apply lf_pure); rfl)
  | ((with_reducible apply lf_setAt); rfl)
  | ((with_reducible apply lf_tru); rfl)
  | ((with_reducible apply lf_lt); exact Nat.le_of_ble_eq_true rfl)
  | ((with_reducible apply lf_pos); first | assumption | decide | omega)
  | ((with_reducible apply lf_le); decide)
  | ((with_reducible apply lf_isNm); rfl)
  | ((with_reducible apply lf_notNm); rfl)
  | ((with_reducible apply lf_noScr); rfl)
  | ((with_reducible apply lf_noKt); rfl)
  | (with_reducible exact eqP_int)
  | (with_reducible exact lf_abs)
  | (with_reducible exact lf_int1)
  | (with_reducible exact lf_max2)
  | (with_reducible exact lf_min2)
  | (with_reducible apply lf_len)
  | (with_reducible apply lf_tuple)
  | (with_reducible apply lf_isi)
  | (with_reducible exact eqP_t3)
  | (with_reducible exact eqP_bl)
  | (with_reducible exact eqP_t2)
  | (with_reducible exact kb_tt)
  | (with_reducible exact kb_bb)
  | (with_reducible exact kb_ii)
  | (with_reducible exact kb_it)
  | (with_reducible exact kb_ib)
  | (with_reducible exact kb_bi)
  | (with_reducible exact kb_ll)
  | (with_reducible exact kb_ss)
  | ((with_reducible apply lf_isiK); with_unfolding_all decide)
  | ((with_reducible apply lf_ty); rfl)
  | ((with_reducible apply lf_bd); exact ⟨by decide, by decide⟩)
  | ((with_reducible apply lf_allO); rfl)
  | ((with_reducible apply lf_app); first | ((repeat (first | (with_reducible exact la_nil) | (with_reducible apply la_cons))); done) | rfl)
  | ((with_reducible apply lf_set); first | ((repeat (first | (with_reducible exact sl_z) | (with_reducible apply sl_s))); done) | rfl)
  | ((with_reducible apply lf_slots); first | ((repeat (first | (with_reducible exact se_nil) | (with_reducible apply se_cons) | (with_reducible apply ss_cons) | (with_reducible apply ss_nil))); done) | rfl)
  | (with_reducible exact sw_nil)
  | (with_reducible apply sw_cons)
  | ((with_reducible apply lf_wipe); rfl)
  | (with_reducible exact sr_nil)
  | (with_reducible apply sr_cons)
  | ((with_reducible apply lf_rest); rfl)
  | (with_reducible apply gr_nm)
  | (with_reducible exact gr_nil)
  | (with_reducible apply gr_cons)
  | (with_reducible apply gr_tp)
  | (with_reducible apply gr_tl)
  | ((with_reducible apply lf_run); first | (simp only [G.nm, G.tp, G.tl, G.runs, List.set_cons_succ, List.set_cons_zero]; done) | rfl)
  | ((with_reducible apply lf_len0); rfl)
  )
local macro_rules | `(tactic| wtm_at "sm") => `(tactic| first
  | ((with_reducible apply lf_smn); with_reducible assumption)
  | (with_reducible exact Smn.nat (by decide))
  | (with_reducible apply Smn.mul)
  | (with_reducible apply Smn.add)
  | (with_reducible apply Smn.sub)
  | (with_reducible apply Smn.neg)
  | (with_reducible apply Smn.ite)
  | (with_reducible apply Smn.div _ (by omega))
  | (with_reducible apply Smn.mod _ (by omega))
  | ((with_reducible refine Smn.of ?_); omega))
local macro_rules | `(tactic| wtm_at "nl") => `(tactic| first
  | (with_reducible apply ev_rng1)
  | (with_reducible apply ev_rng2)
  | (with_reducible apply nl_nil)
  | ((with_reducible apply lf_nl); first | apply nl_tN | apply nl_nil)
  | ((with_reducible apply lf_ok); rfl)
  | ((with_reducible apply lf_itm); rfl))
local macro_rules | `(tactic| wtm_at "e1") => `(tactic| first
  | (with_reducible intro _)
  | (with_reducible exact ev_c)
  | (with_reducible exact ev_args0)
  | (with_reducible exact ev_part0)
  | ((with_reducible apply ev_var); rfl)
  | ((with_reducible apply ev_varO); rfl)
  | (with_reducible apply ev_ix)
  | (with_reducible apply ev_dix)
  | (with_reducible apply ev_din)
  | (with_reducible apply ev_dnotIn)
  | (with_reducible apply ev_get1)
  | (with_reducible apply ev_get2)
  | (with_reducible apply ev_shrN)
  | (with_reducible apply ev_frzD)
  | (with_reducible exact ev_pairs0)
  | (with_reducible apply ev_pairs)
  | (with_reducible apply ev_dispK)
  | (with_reducible apply ev_sortedD)
  | (with_reducible apply ev_rev)
  | (with_reducible apply ev_cutT)
  | (with_reducible apply ev_catT)
  | (with_reducible apply ev_seqK)
  | (with_reducible apply ev_add)
  | (with_reducible apply ev_sub)
  | (with_reducible apply ev_mul)
  | (with_reducible apply ev_div)
  | (with_reducible apply ev_mod)
  | (with_reducible apply ev_neg)
  | (with_reducible apply ev_lt)
  | (with_reducible apply ev_le)
  | (with_reducible apply ev_gt)
  | (with_reducible apply ev_ge)
  | (with_reducible apply ev_eq)
  | (with_reducible apply ev_ne)
  | (with_reducible apply ev_isN)
  | (with_reducible apply ev_notN)
  | (with_reducible apply ev_args)
  | (with_reducible apply ev_tup)
  | (with_reducible apply ev_frz)
  | (with_reducible apply ev_shr)
  | (with_reducible apply ev_disp)
  | (with_reducible apply ev_blt1)
  | (with_reducible apply ev_blt2)
  | (with_reducible apply ev_un)
  | (with_reducible apply ev_and)
  | (with_reducible apply ev_or)
  | (with_reducible apply ev_not)
  | (with_reducible apply tv)
  | (with_reducible apply tt_tru)
  | (with_reducible apply tt_and)
  | (with_reducible apply tt_or)
  | (with_reducible apply tt_not)
  | (with_reducible apply ev_ofSeq)
  | (with_reducible apply ev_part)
  | (with_reducible apply ev_slice)
  | (with_reducible apply ev_compN)
  | (with_reducible exact ev_true)
  | wtm_at "nl"
  | (with_reducible apply ev_chain)
  | (with_reducible apply ev_call)
  | wtm_at "call"
  | wtm_at "leaf"
  | wtm_at "sm")
local macro_rules | `(tactic| wtm_at "ev") => `(tactic| repeat' wtm_at "e1")
local macro_rules | `(tactic| wtm_at "dec") => `(tactic| decide)
local macro_rules | `(tactic| wtm_at "s1") => `(tactic| first
  | (with_reducible exact cs_skip)
  | (with_reducible apply cs_setN)
  | (with_reducible apply cs_dputO)
  | (with_reducible apply cs_ownD)
  | (with_reducible apply cs_frzD)
  | (with_reducible apply cs_retD)
  | (with_reducible apply cs_ownN)
  | (with_reducible apply cs_frzN)
  | (with_reducible apply cs_augN)
  | (with_reducible apply ev_chgN)
  | (with_reducible apply cs_setIxN)
  | (with_reducible apply cs_drop)
  | (with_reducible apply cs_asg)
  | (with_reducible apply cs_ret)
  | wtm_at "e1")
local macro_rules | `(tactic| wtm_at "st") => `(tactic| repeat' wtm_at "s1")
local macro_rules | `(tactic| wtm_at "dz") => `(tactic| (with_reducible apply Dz.nx; · wtm_at "st"))
local macro_rules | `(tactic| wtm_at "di") => `(tactic| (with_reducible apply Dz.ite; · wtm_at "ev"))

/-- a row: how far it is read, what stands in it -/
structure TS where
  pos : Int
  cells : List Int
  ok : 1 ≤ pos
def tkH (t : TS) : List D := [.lst (D.int t.pos :: t.cells.map D.int)]
def tkT (t : TS) (tl : List D) : List D := .lst (D.int t.pos :: t.cells.map D.int) :: tl
def takeV (t : TS) (many : Int) : Int := if t.pos < t.cells.length + 1 then t.cells.getD (t.pos - 1).toNat 0 % many else 0
def takeS (t : TS) : TS := if t.pos < t.cells.length + 1 then ⟨t.pos + 1, t.cells, by have := t.ok; omega⟩ else t
theorem takeV_nn (t : TS) {many : Int} (h : 0 < many) : 0 ≤ takeV t many := by
  unfold takeV
  split
  · exact Int.emod_nonneg _ (by omega)
  · decide
theorem takeV_lt (t : TS) {many : Int} (h : 0 < many) : takeV t many < many := by
  unfold takeV
  split
  · exact Int.emod_lt_of_pos _ h
  · exact h
namespace St
noncomputable section
def lp_law_stream1 : C := (C.seq (C.drop (E.chg U.append (E.var 1) [(E.op O.mod (E.var 3) (E.c (.int 59)))])) (C.seq (C.set 3 (E.op O.div (E.var 3) (E.c (.int 59)))) (C.ite (T.val (E.op O.eq (E.var 3) (E.c (.int 0)))) C.brk C.skip)))
def lp_law_stream2 : C := (C.seq (C.set 3 (E.blt F.abs [(E.blt F.int1 [(E.var 2)])])) (C.for_ (I.rng1 (E.c (.int 60))) (G.nm 4) lp_law_stream1))
def lp_law_stream3 : C := (C.set 5 (E.op O.mod (E.blt F.int1 [(E.op O.add (E.op O.add (E.op O.mul (E.var 5) (E.c (.int 131))) (E.var 2)) (E.c (.int 17)))]) (E.c (.int 1000003))))
def lp_law_stream4 : C := (C.seq (C.set 5 (E.op O.mod (E.blt F.int1 [(E.op O.add (E.op O.add (E.op O.mul (E.var 5) (E.c (.int 48271))) (E.op O.mul (E.var 4) (E.c (.int 69621)))) (E.c (.int 11)))]) (E.c (.int 2147483647)))) (C.drop (E.chg U.append (E.var 1) [(E.op O.mod (E.op O.div (E.var 5) (E.c (.int 1009))) (E.c (.int 59)))])))
@[reducible] def st_law_stream_5 : C := (C.for_ (I.rng1 (E.c (.int 150))) (G.nm 4) lp_law_stream4)
@[reducible] def st_law_stream_4 : C := (C.for_ (I.seq (E.frz (N.slice (E.var 0) none (some (E.c (.int 63)))))) (G.nm 2) lp_law_stream3)
@[reducible] def st_law_stream_2 : C := (C.for_ (I.seq (E.frz (N.slice (E.var 0) none (some (E.c (.int 63)))))) (G.nm 2) lp_law_stream2)
@[reducible] def st_law_stream_1 : C := (C.own 1 (N.disp [(E.c (.int 1))]))
def b_law_stream : C := (C.seq st_law_stream_1 (C.seq st_law_stream_2 (C.seq (C.set 5 (E.c (.int 7))) (C.seq st_law_stream_4 (C.seq st_law_stream_5 (C.retS (E.var 1)))))))
def m_law_stream : Fn := fn 6 1 b_law_stream
@[reducible] def st_law_take_1 : C := (C.ite (T.val (E.op O.lt (E.op O.ix (E.var 0) (E.c (.int 0))) (E.blt F.len [(E.var 0)]))) (C.seq (C.setIx (E.var 0) (E.c (.int 0)) (E.op O.add (E.op O.ix (E.var 0) (E.c (.int 0))) (E.c (.int 1)))) (C.ret (E.op O.mod (E.blt F.int1 [(E.op O.ix (E.var 0) (E.op O.sub (E.op O.ix (E.var 0) (E.c (.int 0))) (E.c (.int 1))))]) (E.var 1)))) C.skip)
def b_law_take : C := (C.seq st_law_take_1 (C.ret (E.c (.int 0))))
def m_law_take : Fn := fn 2 2 b_law_take
def lp_law1 : C := (C.seq (C.set 4 (E.op O.ix (E.var 2) (E.un O.neg (E.c (.int 1))))) (C.seq (C.set 5 (E.op O.ix (E.frz (N.disp [(E.tup [(E.c (.int 1)), (E.c (.int 0))]), (E.tup [(E.op O.sub (E.call m_law_take [(E.var 1), (E.c (.int 59))]) (E.c (.int 29))), (E.c (.int 0))]), (E.tup [(E.call m_law_take [(E.var 1), (E.c (.int 9))]), (E.op O.sub (E.call m_law_take [(E.var 1), (E.c (.int 59))]) (E.c (.int 29)))]), (E.tup [(E.c (.int 3)), (E.c (.int 3))])])) (E.call m_law_take [(E.var 1), (E.c (.int 4))]))) (C.seq (C.ite (T.val (E.op O.eq (E.var 5) (E.tup [(E.c (.int 0)), (E.c (.int 0))]))) (C.set 5 (E.tup [(E.c (.int 0)), (E.c (.int 1))])) C.skip) (C.drop (E.chg U.append (E.var 2) [(E.tup [(E.op O.add (E.op O.ix (E.var 4) (E.c (.int 0))) (E.op O.ix (E.var 5) (E.c (.int 0)))), (E.op O.add (E.op O.ix (E.var 4) (E.c (.int 1))) (E.op O.ix (E.var 5) (E.c (.int 1))))])])))))
@[reducible] def st_law_5 : C := (C.set 7 (E.op O.add (E.c (.int 1)) (E.call m_law_take [(E.var 1), (E.c (.int 40))])))
@[reducible] def st_law_3 : C := (C.for_ (I.rng1 (E.call m_law_take [(E.var 1), (E.c (.int 8))])) (G.nm 3) lp_law1)
@[reducible] def st_law_2 : C := (C.own 2 (N.disp [(E.tup [(E.call m_law_take [(E.var 1), (E.c (.int 59))]), (E.call m_law_take [(E.var 1), (E.c (.int 59))])])]))
@[reducible] def st_law_1 : C := (C.set 1 (E.call m_law_stream [(E.var 0)]))
end
theorem take_evT (tl : List D) (t : TS) {many : Int} (h : 0 < many) : m_law_take [.ref 0, .int many] (tkT t tl) = some (.int (takeV t many), tkT (takeS t) tl) := by
  have hp := t.ok
  have hl : ((D.int t.pos :: t.cells.map D.int).length : Int) = t.cells.length + 1 := by simp
  have tst : (T.val (E.op O.lt (E.op O.ix (E.var 0) (E.c (.int 0))) (E.blt F.len [(E.var 0)]))) ⟨[.val (.ref 0), .val (.int many)], tkT t tl⟩ = some (decide (t.pos < t.cells.length + 1), ⟨[.val (.ref 0), .val (.int many)], tkT t tl⟩) := by
    rw [← hl]
    exact tv (ev_lt (ev_ix (ev_var rfl) ev_c rfl atI_zero) (ev_blt1 (ev_var rfl) (lf_len rfl)))
  unfold m_law_take
  apply fn_rtH rfl
  unfold b_law_take st_law_take_1
  show (C.seq _ _) ⟨[.val (.ref 0), .val (.int many)], tkT t tl⟩ = _
  unfold takeV takeS
  by_cases c : t.pos < t.cells.length + 1
  · rw [decide_eq_true c] at tst
    rw [if_pos c, if_pos c]
    refine cs_rt (cs_iteT tst ?_)
    refine cs_nx (cs_setIxR (ds := D.int t.pos :: t.cells.map D.int) (ds' := D.int (t.pos + 1) :: t.cells.map D.int) (ev_add (ev_ix (ev_var rfl) ev_c rfl atI_zero) ev_c) (ev_var rfl) ev_c rfl rfl setAt0) ?_
    have e1 : atI (D.int (t.pos + 1) :: t.cells.map D.int) (t.pos + 1 - 1) = some (.int (t.cells.getD (t.pos - 1).toNat 0)) := by
      obtain ⟨n, hn⟩ : ∃ n : Nat, t.pos = n + 1 := ⟨(t.pos - 1).toNat, by omega⟩
      have hn2 : n < t.cells.length := by omega
      have h1 : t.pos + 1 - 1 = ((n + 1 : Nat) : Int) := by omega
      have h2 : (t.pos - 1).toNat = n := by omega
      rw [h1, h2]
      refine atI_nat ?_
      rw [List.getElem?_cons_succ, List.getElem?_map, List.getD_eq_getElem?_getD, List.getElem?_eq_getElem hn2]
      rfl
    exact cs_ret (ev_mod (ev_blt1 (ev_ix (ev_var rfl) (ev_sub (ev_ix (ev_var rfl) ev_c rfl atI_zero) ev_c) rfl e1) lf_int1) (ev_var rfl) h) rfl
  · rw [decide_eq_false c] at tst
    rw [if_neg c, if_neg c]
    exact cs_nx (cs_iteF tst cs_skip) (cs_ret ev_c rfl)
theorem take_ev (t : TS) {many : Int} (h : 0 < many) : m_law_take [.ref 0, .int many] (tkH t) = some (.int (takeV t many), tkH (takeS t)) := take_evT [] t h
def sS (S : D) (cs : List Int) (X2 X3 X4 X5 : Sl) : Z := ⟨[.val S, .own (.lst (D.int 1 :: cs.map D.int)), X2, X3, X4, X5], []⟩
theorem app_ev {S : D} {cs : List Int} {X2 X3 X4 X5 : Sl} {m : M D} {i : Int} (hm : m (sS S cs X2 X3 X4 X5) = some (.int i, sS S cs X2 X3 X4 X5)) (hl : cs.length < 10000) : (C.drop (E.chg U.append (E.var 1) [m])) (sS S cs X2 X3 X4 X5) = some (.nx, sS S (cs ++ [i]) X2 X3 X4 X5) := by
  have e : U.append (D.int 1 :: cs.map D.int) [.int i] = some (.non, D.int 1 :: (cs ++ [i]).map D.int) := by
    unfold U.append
    dsimp only
    rw [if_pos (by rw [List.length_cons, List.length_map]; exact Nat.lt_of_lt_of_le (Nat.succ_lt_succ hl) (by decide))]
    simp
  exact cs_drop (ev_chgN (n := 1) (ev_varO rfl) rfl (ev_args hm ev_args0 rfl) rfl e rfl)
theorem inner_ev (S : D) (cs : List Int) (X2 X4 X5 : Sl) (left : Int) (B : Nat) (hB : B ≤ 9000) (hc : cs.length + 60 ≤ B) : Dz (C.for_ (I.rng1 (E.c (.int 60))) (G.nm 4) lp_law_stream1) (sS S cs X2 (.val (.int left)) X4 X5) fun f z => f = .nx ∧ ∃ cs2 X3 X4, cs2.length ≤ B ∧ z = sS S cs2 X2 X3 X4 X5 := by
  refine Dz.for_ (ev_rng1 ev_c ⟨by decide, by decide⟩) rfl (fun ds z => ∃ cs2 left X4, cs2.length + ds.length ≤ B ∧ z = sS S cs2 X2 (.val (.int left)) X4 X5) ⟨cs, left, X4, by simpa [I.irng] using hc, rfl⟩ ?_ ?_
  · rintro d ds z ⟨cs2, left, X4, hl, rfl⟩
    rw [List.length_cons] at hl
    refine ⟨sS S cs2 X2 (.val (.int left)) (.val d) X5, rfl, ?_⟩
    unfold lp_law_stream1
    refine Dz.nx (app_ev (i := left % 59) (ev_mod (ev_var rfl) ev_c (by decide)) (by omega)) ?_
    refine Dz.nx (z1 := sS S (cs2 ++ [left % 59]) X2 (.val (.int (left / 59))) (.val d) X5) (cs_set (ev_div (ev_var rfl) ev_c (by decide) (Smn.nat (by decide)) (by decide)) rfl) ?_
    have hl2 : (cs2 ++ [left % 59]).length + ds.length ≤ B := by rw [List.length_append, List.length_singleton]; omega
    refine Dz.ite (tv (ev_eqI (ev_var rfl) ev_c)) (fun _ => Dz.brk ?_) fun _ => Dz.skip ?_
    · exact ⟨rfl, _, _, _, by omega, rfl⟩
    · exact ⟨_, _, _, hl2, rfl⟩
  · rintro z ⟨cs2, left, X4, hl, rfl⟩
    exact ⟨rfl, _, _, _, by simpa using hl, rfl⟩
theorem cut_len {ns : List Int} (hl : ns.length ≤ 63) : N.cutL (ns.map D.int) none (some 63) = ns.map D.int := by
  have e : HT.sIx (ns.map D.int).length (ns.map D.int).length (some 63) = (ns.map D.int).length := by
    rw [show (63 : Int) = ((63 : Nat) : Int) from rfl, HT.sIx_nat, List.length_map]
    exact Nat.min_eq_right hl
  unfold N.cutL
  rw [e]
  show ((ns.map D.int).drop 0).take ((ns.map D.int).length - 0) = _
  rw [List.drop_zero, Nat.sub_zero, List.take_length]
theorem stream_ev (ns : List Int) (hl : ns.length ≤ 63) : ∃ t : TS, m_law_stream [.scr (ns.map D.int)] [] = some (.ref 0, tkH t) := by
  have src : ∀ {X1 X2 X3 X4 X5 : Sl}, (I.seq (E.frz (N.slice (E.var 0) none (some (E.c (.int 63)))))) ⟨[.val (.scr (ns.map D.int)), X1, X2, X3, X4, X5], []⟩ = some (⟨ns.map D.int, none⟩, ⟨[.val (.scr (ns.map D.int)), X1, X2, X3, X4, X5], []⟩) := by
    intro X1 X2 X3 X4 X5
    refine ev_seq (x := .lst (ns.map D.int)) (ev_frz ?_) rfl
    have e := ev_slice (z := ⟨[.val (.scr (ns.map D.int)), X1, X2, X3, X4, X5], []⟩) (lo := none) (hi := some (E.c (.int 63))) (ds := ns.map D.int) (ev_var (n := 0) rfl) ev_part0 (ev_part ev_c) rfl
    rw [cut_len hl] at e
    exact e
  have body : Dz b_law_stream ⟨slots 6 [.scr (ns.map D.int)], []⟩ fun f z => match f with | .nx => False | .rt d => ∃ t : TS, d = .ref 0 ∧ z.h = tkH t | _ => False := by
    unfold b_law_stream
    refine Dz.nx (z1 := sS (.scr (ns.map D.int)) [] .no .no .no .no) (cs_own (ev_disp (ev_args ev_c ev_args0 rfl)) (Nat.le_of_ble_eq_true rfl)) ?_
    refine Dz.thn (R := fun z => ∃ cs X2 X3 X4, cs.length ≤ 3780 ∧ z = sS (.scr (ns.map D.int)) cs X2 X3 X4 .no) ?_ ?_
    · refine Dz.for_ src rfl (fun ds z => (∀ d ∈ ds, ∃ i, d = D.int i) ∧ ∃ cs X2 X3 X4, cs.length + 60 * ds.length ≤ 3780 ∧ z = sS (.scr (ns.map D.int)) cs X2 X3 X4 .no) ⟨fun d hd => ?_, [], _, _, _, ?_, rfl⟩ ?_ ?_
      · obtain ⟨i, _, rfl⟩ := List.mem_map.mp hd
        exact ⟨i, rfl⟩
      · simp only [List.length_nil, List.length_map]; omega
      · rintro d ds z ⟨hd, cs, X2, X3, X4, hc, rfl⟩
        obtain ⟨i, rfl⟩ := hd d List.mem_cons_self
        rw [List.length_cons] at hc
        refine ⟨sS (.scr (ns.map D.int)) cs (.val (.int i)) X3 X4 .no, rfl, ?_⟩
        unfold lp_law_stream2
        refine Dz.nx (cs_set (ev_blt1 (ev_blt1 (ev_var rfl) lf_int1) lf_abs) rfl) ?_
        refine (inner_ev (.scr (ns.map D.int)) cs (.val (.int i)) X4 .no _ (3780 - 60 * ds.length) (by omega) (by omega)).imp ?_
        rintro f z ⟨rfl, cs2, X3, X4, h2, rfl⟩
        exact ⟨fun d h => hd d (List.mem_cons_of_mem _ h), cs2, _, _, _, by omega, rfl⟩
      · rintro z ⟨_, cs, X2, X3, X4, hc, rfl⟩
        exact ⟨rfl, cs, X2, X3, X4, by simpa using hc, rfl⟩
    · rintro z ⟨cs, X2, X3, X4, hc, rfl⟩
      refine Dz.nx (z1 := sS (.scr (ns.map D.int)) cs X2 X3 X4 (.val (.int 7))) (cs_set ev_c rfl) ?_
      refine Dz.thn (R := fun z => ∃ X2 seed, (0 ≤ seed ∧ seed ≤ 2147483647) ∧ z = sS (.scr (ns.map D.int)) cs X2 X3 X4 (.val (.int seed))) ?_ ?_
      · refine Dz.for_ src rfl (fun ds z => (∀ d ∈ ds, ∃ i, d = D.int i) ∧ ∃ X2 seed, (0 ≤ seed ∧ seed ≤ 2147483647) ∧ z = sS (.scr (ns.map D.int)) cs X2 X3 X4 (.val (.int seed))) ⟨fun d hd => ?_, _, 7, by decide, rfl⟩ ?_ ?_
        · obtain ⟨i, _, rfl⟩ := List.mem_map.mp hd
          exact ⟨i, rfl⟩
        · rintro d ds z ⟨hd, X2, seed, hs, rfl⟩
          obtain ⟨i, rfl⟩ := hd d List.mem_cons_self
          have h1 : Smn 64 seed := Smn.of (by omega)
          refine ⟨sS (.scr (ns.map D.int)) cs (.val (.int i)) X3 X4 (.val (.int seed)), rfl, ?_⟩
          unfold lp_law_stream3
          refine Dz.of (cs_set (ev_mod (ev_blt1 (ev_add (ev_add (ev_mul (ev_var rfl) ev_c h1 (Smn.nat (by decide)) (by decide) (by decide)) (ev_var rfl)) ev_c) lf_int1) ev_c (by decide)) rfl) ?_
          exact ⟨fun d h => hd d (List.mem_cons_of_mem _ h), _, _, by omega, rfl⟩
        · rintro z ⟨_, X2, seed, hs, rfl⟩
          exact ⟨rfl, X2, seed, hs, rfl⟩
      · rintro z ⟨X2, seed, hs, rfl⟩
        refine Dz.thn (R := fun z => ∃ cs X4 X5, z = sS (.scr (ns.map D.int)) cs X2 X3 X4 X5) ?_ ?_
        · refine Dz.for_ (ev_rng1 ev_c ⟨by decide, by decide⟩) rfl (fun ds z => (∀ d ∈ ds, ∃ i : Int, (0 ≤ i ∧ i ≤ 150) ∧ d = D.int i) ∧ ∃ cs X4 seed, (0 ≤ seed ∧ seed ≤ 2147483647) ∧ cs.length + ds.length ≤ 4000 ∧ z = sS (.scr (ns.map D.int)) cs X2 X3 X4 (.val (.int seed))) ⟨fun d hd => ?_, cs, _, seed, hs, ?_, rfl⟩ ?_ ?_
          · unfold I.irng at hd
            obtain ⟨n, hn, rfl⟩ := List.mem_map.mp hd
            have := List.mem_range.mp hn
            exact ⟨_, by simp at this ⊢; omega, rfl⟩
          · simp [I.irng]; omega
          · rintro d ds z ⟨hd, cs, X4, seed, hs, hc, rfl⟩
            obtain ⟨i, hi, rfl⟩ := hd d List.mem_cons_self
            rw [List.length_cons] at hc
            have h1 : Smn 64 seed := Smn.of (by omega)
            have h2 : Smn 64 i := Smn.of (by omega)
            refine ⟨sS (.scr (ns.map D.int)) cs X2 X3 (.val (.int i)) (.val (.int seed)), rfl, ?_⟩
            unfold lp_law_stream4
            refine Dz.nx (z1 := sS (.scr (ns.map D.int)) cs X2 X3 (.val (.int i)) (.val (.int ((seed * 48271 + i * 69621 + 11) % 2147483647)))) (cs_set (ev_mod (ev_blt1 (ev_add (ev_add (ev_mul (ev_var rfl) ev_c h1 (Smn.nat (by decide)) (by decide) (by decide)) (ev_mul (ev_var rfl) ev_c h2 (Smn.nat (by decide)) (by decide) (by decide))) ev_c) lf_int1) ev_c (by decide)) rfl) ?_
            refine Dz.of (app_ev (i := (seed * 48271 + i * 69621 + 11) % 2147483647 / 1009 % 59) (ev_mod (ev_div (ev_var rfl) ev_c (by decide) (Smn.nat (by decide)) (by decide)) ev_c (by decide)) (by omega)) ?_
            exact ⟨fun d h => hd d (List.mem_cons_of_mem _ h), _, _, _, by omega, by rw [List.length_append, List.length_singleton]; omega, rfl⟩
          · rintro z ⟨_, cs, X4, seed, hs, hc, rfl⟩
            exact ⟨rfl, cs, X4, _, rfl⟩
        · rintro z ⟨cs, X4, X5, rfl⟩
          exact Dz.of (cs_retS (n := 1) (ev_varO rfl) rfl) ⟨⟨1, cs, by decide⟩, rfl, rfl⟩
  obtain ⟨d, h2, e, t, rfl, ht⟩ := Dz.fn (n := 6) (k := 1) (R := fun d h => ∃ t : TS, d = .ref 0 ∧ h = tkH t) rfl (body.imp fun f z q => by cases f <;> first | exact q.elim | exact q)
  exact ⟨t, by unfold m_law_stream; rw [e, ht]⟩
end St
end Mi

set_option Elab.async false
set_option linter.all false
set_option maxRecDepth 100000
/-! Mi, part R: data that can be shown. -/
namespace Mi
open PySem L2
/-- d can be shown: its depth, its weight -/
def Rep (d : D) (dep wt : Nat) : Prop := ∃ p, O.toP d = some p ∧ p.showable = true ∧ p.hasDict = false ∧ p.depth ≤ dep ∧ p.leavesShort 12 = true ∧ p.weight ≤ wt
def RepAll (ds : List D) (dep wt : Nat) : Prop := ∃ ps, O.toPs ds = some ps ∧ ps.length = ds.length ∧ PyData.showableAll ps = true ∧ PyData.hasDictAll ps = false ∧ PyData.depthAll ps ≤ dep ∧ PyData.leavesShortAll 12 ps = true ∧ PyData.weightAll ps ≤ ds.length * (wt + 1)
theorem Rep.mono {d : D} {a b w v : Nat} (h : Rep d a w) (h1 : a ≤ b) (h2 : w ≤ v) : Rep d b v := by
  obtain ⟨p, e, h3, h4, h5, h6, h7⟩ := h
  exact ⟨p, e, h3, h4, by omega, h6, by omega⟩
theorem Rep.int {i : Int} (h : -1000000000 ≤ i ∧ i ≤ 1000000000) : Rep (.int i) 0 40 := by
  have h1 : i.natAbs < 10 ^ 10 := by omega
  refine ⟨.int i, rfl, ?_, by simp [PyData.hasDict], by simp [PyData.depth], ?_, ?_⟩
  · simp only [PyData.showable, decide_eq_true_eq]
    have h2 : i.natAbs < 2 ^ 40 := by omega
    by_cases h0 : i.natAbs = 0
    · rw [h0]; decide
    · have := (Nat.log2_lt h0).mpr h2
      omega
  · have q := int_text_length_le10 (a := i) (k := 10) (by decide) h1
    rw [PyData.leavesShort]
    apply decide_eq_true
    show (Str.ofString (toString i)).length ≤ 12
    rw [ofString_length]
    omega
  · simp only [PyData.weight]
    split
    · omega
    · rename_i c
      have h0 : i.natAbs ≠ 0 := by simpa using c
      have h2 : i.natAbs < 2 ^ 39 := by omega
      have := (Nat.log2_lt h0).mpr h2
      omega
theorem Rep.non : Rep .non 0 0 := ⟨.none, rfl, by simp [PyData.showable], by simp [PyData.hasDict], by simp [PyData.depth], by simp [PyData.leavesShort], by simp [PyData.weight]⟩
theorem RepAll.of {dep wt : Nat} : ∀ {ds : List D}, (∀ d ∈ ds, Rep d dep wt) → RepAll ds dep wt
  | [], _ => ⟨[], rfl, rfl, by simp [PyData.showableAll], by simp [PyData.hasDictAll], by simp [PyData.depthAll], by simp [PyData.leavesShortAll], by simp [PyData.weightAll]⟩
  | d :: ds, h => by
    obtain ⟨p, e, h3, h4, h5, h6, h7⟩ := h d List.mem_cons_self
    obtain ⟨ps, e', g2, g3, g4, g5, g6, g7⟩ := RepAll.of (ds := ds) fun x hx => h x (List.mem_cons_of_mem _ hx)
    refine ⟨p :: ps, ?_, by simp [g2], by simp [PyData.showableAll, h3, g3], by simp [PyData.hasDictAll, h4, g4], ?_, by simp [PyData.leavesShortAll, h6, g6], ?_⟩
    · rw [O.toPs, e, e']
    · simp only [PyData.depthAll]; omega
    · simp only [PyData.weightAll, List.length_cons, Nat.add_mul, Nat.one_mul]; omega
theorem Rep.tup {ds : List D} {dep wt n : Nat} (h : ∀ d ∈ ds, Rep d dep wt) (hn : ds.length ≤ n) : Rep (.tup ds) (dep + 1) (n * (wt + 1)) := by
  obtain ⟨ps, e', g2, g3, g4, g5, g6, g7⟩ := RepAll.of h
  have := Nat.mul_le_mul_right (wt + 1) hn
  exact ⟨.tuple ps, by rw [O.toP, e']; rfl, by simpa [PyData.showable] using g3, by simpa [PyData.hasDict] using g4, by simp only [PyData.depth]; omega, by simpa [PyData.leavesShort] using g6, by simp only [PyData.weight]; omega⟩
theorem Rep.lst {ds : List D} {dep wt n : Nat} (h : ∀ d ∈ ds, Rep d dep wt) (hn : ds.length ≤ n) : Rep (.lst ds) (dep + 1) (n * (wt + 1)) := by
  obtain ⟨ps, e', g2, g3, g4, g5, g6, g7⟩ := RepAll.of h
  have := Nat.mul_le_mul_right (wt + 1) hn
  exact ⟨.list ps, by rw [O.toP, e']; rfl, by simpa [PyData.showable] using g3, by simpa [PyData.hasDict] using g4, by simp only [PyData.depth]; omega, by simpa [PyData.leavesShort] using g6, by simp only [PyData.weight]; omega⟩
/-- what repr says -/
def shw (d : D) : Str := match O.toP d with
  | some p => p.shown
  | none => ""
def isRow : D → Bool
  | .tup _ => true
  | .lst _ => true
  | _ => false
theorem repr_ev {x d : D} {z : Z} (hs : O.snap x z = d) (h : Rep d 40 1000000) (hr : isRow d = true) : F.repr [x] z = some (.str (shw d)) := by
  obtain ⟨p, e, h3, h4, h5, h6, h7⟩ := h
  have hrow : rowP p = true := by
    cases d with
    | tup ds =>
      rw [O.toP] at e
      cases hp : O.toPs ds with
      | none => rw [hp] at e; cases e
      | some q => rw [hp] at e; cases e; rfl
    | lst ds =>
      rw [O.toP] at e
      cases hp : O.toPs ds with
      | none => rw [hp] at e; cases e
      | some q => rw [hp] at e; cases e; rfl
    | _ => cases hr
  have hw : shw d = p.shown := by unfold shw; rw [e]
  rw [hw]
  show (match O.toP (O.snap x z) with | some p => if rprOk p = true ∧ p.shown.length ≤ sizeLine then some (D.str p.shown) else none | none => none) = _
  rw [hs, e]
  dsimp only
  rw [if_pos]
  refine ⟨?_, PyData.shown_fits (B := 12) (by decide) (by decide) h6 (by omega)⟩
  unfold rprOk
  rw [hrow, h3, h4, decide_eq_true h5]
  rfl
end Mi

set_option Elab.async false
set_option linter.all false
set_option maxRecDepth 100000
/-! Mi, part K: dicts. -/
namespace Mi
open PySem PySem.Spec PyProof.Rows L2
/-! ### plain -/
section
variable {κ α : Type} [DecidableEq κ]
def getG (kvs : List (κ × α)) (k : κ) : Option α := (kvs.find? fun kv => decide (kv.1 = k)).map (·.2)
def putG (kvs : List (κ × α)) (k : κ) (v : α) : List (κ × α) := if (kvs.any fun kv => decide (kv.1 = k)) = true then kvs.map (fun kv => if kv.1 = k then (kv.1, v) else kv) else kvs ++ [(k, v)]
def dropG (kvs : List (κ × α)) (k : κ) : List (κ × α) := kvs.filter fun kv => decide (kv.1 ≠ k)
end
def keyD : D → Option Key
  | .int i => some (.inl i)
  | .str s => some (.inr s)
  | _ => none
def keyDs : List D → Option (List Key)
  | [] => some []
  | d :: ds => match keyD d, keyDs ds with
    | some k, some ks => some (k :: ks)
    | _, _ => none
def keyT : D → Option (List Key)
  | .tup ds => keyDs ds
  | _ => none
/-- a dict's content -/
def dcont (x : D) (z : Z) : Option D := match x with
  | .dk kvs => some (.dk kvs)
  | .dt kvs => some (.dt kvs)
  | .ref n => match z.h[n]? with
    | some (.dk kvs) => some (.dk kvs)
    | some (.dt kvs) => some (.dt kvs)
    | _ => none
  | .own i => match z.s[i]? with
    | some (.own (.dk kvs)) => some (.dk kvs)
    | some (.own (.dt kvs)) => some (.dt kvs)
    | _ => none
  | _ => none
def dgetC (c key : D) : Option (Option D) := match c with
  | .dk kvs => match keyD key with
    | some k => some (getG kvs k)
    | none => none
  | .dt kvs => match keyT key with
    | some k => some (getG kvs k)
    | none => none
  | _ => none
def dputC (c key v : D) : Option D := match c with
  | .dk kvs => match keyD key with
    | some k => if kvs.length < szl then some (.dk (putG kvs k v)) else none
    | none => none
  | .dt kvs => match keyT key with
    | some k => if kvs.length < szl then some (.dt (putG kvs k v)) else none
    | none => none
  | _ => none
def ddropC (c key : D) : Option D := match c with
  | .dk kvs => match keyD key with
    | some k => some (.dk (dropG kvs k))
    | none => none
  | .dt kvs => match keyT key with
    | some k => some (.dt (dropG kvs k))
    | none => none
  | _ => none
def dget (x key : D) (z : Z) : Option (Option D) := match dcont x z with
  | some c => dgetC c key
  | none => none
namespace O
def dix (x y : D) (z : Z) : Option D := match dget x y z with
  | some o => o
  | none => none
def din (x y : D) (z : Z) : Option D := match dget y x z with
  | some o => some (.bl o.isSome)
  | none => none
def dnotIn (x y : D) (z : Z) : Option D := match dget y x z with
  | some o => some (.bl (!o.isSome))
  | none => none
end O
namespace E
/-- d.get(k) -/
def get1 (a b : M D) : M D := bnd a fun x z => if (dcont x z).isSome = true then bnd b (fun y z => match dget x y z with
  | some o => some (o.getD .non, z)
  | none => none) z else none
def get2 (a b c : M D) : M D := bnd a fun x z => if (dcont x z).isSome = true then bnd b (fun y => bnd c fun w z => if isPure w = true then match dget x y z with
  | some o => some (o.getD w, z)
  | none => none
  else none) z else none
/-- a new object laid down -/
def frzN (m : M D) : M D := m
/-- .. joins the shared heap -/
def shrN (m : M D) : M D := bnd m fun d z => some (.ref z.h.length, ⟨z.s, z.h ++ [d]⟩)
end E
namespace C
def dput (a k e : M D) : C := bnd e fun v => bnd a fun x => bnd k fun y z => if isPure v = true then match x with
    | .own i => match z.s[i]? with
      | some (.own c) => match dputC c y v with
        | some c' => some (.nx, ⟨z.s.set i (.own c'), z.h⟩)
        | none => none
      | _ => none
    | .ref n => match z.h[n]? with
      | some c => match dputC c y v with
        | some c' => some (.nx, ⟨z.s, z.h.set n c'⟩)
        | none => none
      | _ => none
    | _ => none
  else none
/-- the slot owns a new object -/
def ownN (i : Nat) (m : M D) : C := bnd m fun d z => if i < z.s.length then some (.nx, ⟨z.s.set i (.own d), z.h⟩) else none
def isDict : D → Bool
  | .dk _ => true
  | .dt _ => true
  | _ => false
/-- the slot's dict is not changed any more -/
def frzD (i : Nat) : C := fun z => match z.s[i]? with
  | some (.own d) => if isDict d = true then some (.nx, ⟨z.s.set i (.val d), z.h⟩) else none
  | _ => none
/-- return the slot's own dict -/
def retD (e : M D) : C := bnd e fun d z => match d with
  | .own i => match z.s[i]? with
    | some (.own d) => if isDict d = true then some (.rt d, ⟨z.s.set i .no, z.h⟩) else none
    | _ => none
  | _ => none
/-- a slot's own object goes to the shared heap -/
def retR (e : M D) : C := bnd e fun d z => match d with
  | .own i => match z.s[i]? with
    | some (.own d) => some (.rt (.ref z.h.length), ⟨z.s.set i .no, z.h ++ [d]⟩)
    | _ => none
  | _ => none
end C

/-! ### the relation of a dict's entries -/
def Rk (K : Kx) (F : Hp) (rho : List Addr) {κ : Type} (kvs : List (κ × D)) (es : List (κ × V)) : Prop := es.map Prod.fst = kvs.map Prod.fst ∧ Rps K F rho (kvs.map Prod.snd) (es.map Prod.snd)
section
variable {K : Kx} {F : Hp} {rho : List Addr} {κ : Type} [DecidableEq κ]
theorem Rk.length {kvs : List (κ × D)} {es : List (κ × V)} (r : Rk K F rho kvs es) : es.length = kvs.length := by
  have := congrArg List.length r.1
  simpa using this
theorem Rk.uncons {p : κ × D} {kvs : List (κ × D)} {es : List (κ × V)} (r : Rk K F rho (p :: kvs) es) : ∃ v es', es = (p.1, v) :: es' ∧ Rp K F rho p.2 v ∧ Rk K F rho kvs es' := by
  obtain ⟨h1, h2⟩ := r
  cases es with
  | nil => simp at h1
  | cons e es =>
    obtain ⟨k, v⟩ := e
    simp only [List.map_cons, List.cons.injEq] at h1
    simp only [List.map_cons] at h2
    cases h2 with
    | cons a b => exact ⟨v, es, by rw [← h1.1], a, h1.2, b⟩
theorem Rk.cons {k : κ} {d : D} {v : V} {kvs : List (κ × D)} {es : List (κ × V)} (a : Rp K F rho d v) (r : Rk K F rho kvs es) : Rk K F rho ((k, d) :: kvs) ((k, v) :: es) :=
  ⟨by simp only [List.map_cons, r.1], by simp only [List.map_cons]; exact .cons a r.2⟩
theorem Rk.nil : Rk K F rho ([] : List (κ × D)) [] := ⟨rfl, .nil⟩
theorem Rk.get (k : κ) : ∀ {kvs : List (κ × D)} {es : List (κ × V)}, Rk K F rho kvs es → (getG kvs k = none ∧ valV es k = none) ∨ ∃ d v, getG kvs k = some d ∧ valV es k = some v ∧ Rp K F rho d v
  | [], es, r => by
    have := r.length
    cases es with
    | nil => exact .inl ⟨rfl, rfl⟩
    | cons _ _ => simp at this
  | (j, d) :: kvs, es, r => by
    obtain ⟨v, es', rfl, h1, h2⟩ := r.uncons
    by_cases c : j = k
    · exact .inr ⟨d, v, by simp [getG, List.find?_cons, c], valV_pos c, h1⟩
    · have e1 : getG ((j, d) :: kvs) k = getG kvs k := by simp [getG, List.find?_cons, c]
      rw [e1, valV_neg c]
      exact Rk.get k h2
theorem any_keys (k : κ) {kvs : List (κ × D)} {es : List (κ × V)} (r : Rk K F rho kvs es) : (es.any fun kv => decide (kv.1 = k)) = kvs.any fun kv => decide (kv.1 = k) := by
  have e1 : (es.any fun kv => decide (kv.1 = k)) = (es.map Prod.fst).any fun j => decide (j = k) := by rw [List.any_map]; rfl
  have e2 : (kvs.any fun kv => decide (kv.1 = k)) = (kvs.map Prod.fst).any fun j => decide (j = k) := by rw [List.any_map]; rfl
  rw [e1, e2, r.1]
theorem Rk.repl (k : κ) {d : D} {v : V} (h : Rp K F rho d v) : ∀ {kvs : List (κ × D)} {es : List (κ × V)}, Rk K F rho kvs es → Rk K F rho (kvs.map fun kv => if kv.1 = k then (kv.1, d) else kv) (es.map fun kv => if kv.1 = k then (kv.1, v) else kv)
  | [], es, r => by
    have := r.length
    cases es with
    | nil => exact .nil
    | cons _ _ => simp at this
  | (j, d0) :: kvs, es, r => by
    obtain ⟨v0, es', rfl, h1, h2⟩ := r.uncons
    rw [List.map_cons, List.map_cons]
    dsimp only
    by_cases c : j = k
    · rw [if_pos c, if_pos c]
      exact .cons h (Rk.repl k h h2)
    · rw [if_neg c, if_neg c]
      exact .cons h1 (Rk.repl k h h2)
theorem Rk.append {kvs kvs2 : List (κ × D)} {es es2 : List (κ × V)} (r : Rk K F rho kvs es) (r2 : Rk K F rho kvs2 es2) : Rk K F rho (kvs ++ kvs2) (es ++ es2) :=
  ⟨by rw [List.map_append, List.map_append, r.1, r2.1], by rw [List.map_append, List.map_append]; exact r.2.append r2.2⟩
theorem Rk.put (k : κ) {d : D} {v : V} (h : Rp K F rho d v) {kvs : List (κ × D)} {es : List (κ × V)} (r : Rk K F rho kvs es) : Rk K F rho (putG kvs k d) (putK es k v) := by
  unfold putG putK
  rw [any_keys k r]
  split
  · exact r.repl k h
  · exact r.append (.cons h .nil)
theorem Rk.drop (k : κ) : ∀ {kvs : List (κ × D)} {es : List (κ × V)}, Rk K F rho kvs es → Rk K F rho (dropG kvs k) (dropK es k)
  | [], es, r => by
    have := r.length
    cases es with
    | nil => exact .nil
    | cons _ _ => simp at this
  | (j, d0) :: kvs, es, r => by
    obtain ⟨v0, es', rfl, h1, h2⟩ := r.uncons
    have ih := Rk.drop k h2
    unfold dropG dropK at ih ⊢
    rw [List.filter_cons, List.filter_cons]
    by_cases c : j = k
    · simpa [c] using ih
    · have e1 : (decide ((j, d0).1 ≠ k)) = true := decide_eq_true c
      have e2 : (decide ((j, v0).1 ≠ k)) = true := decide_eq_true c
      rw [if_pos e1, if_pos e2]
      exact .cons h1 ih
end
section
variable {K : Kx} {B : Bs} {F : Hp} {rho : List Addr} {om : Nat → Option Addr} {z : Z} {σ : L2.St} {H : Hp}
theorem keyD_ok {d : D} {v : V} {k : Key} (r : Rp K F rho d v) (e : keyD d = some k) : v = kV k := by
  cases r <;> first | (cases e; rfl) | cases e
theorem keyDs_ok : ∀ {ds : List D} {vs : List V} {k : List Key}, Rps K F rho ds vs → keyDs ds = some k → vs = k.map kV
  | [], _, _, .nil, e => by cases e; rfl
  | d :: ds, _, k, .cons r q, e => by
    rw [keyDs] at e
    split at e
    · rename_i k0 ks h1 h2
      cases e
      rw [keyD_ok r h1, keyDs_ok q h2]
      rfl
    · cases e
theorem keyT_ok {d : D} {v : V} {k : List Key} (r : Rp K F rho d v) (e : keyT d = some k) : ∃ b, v = .ref b ∧ F b = some (.tup (k.map kV)) := by
  cases r with
  | tup h q =>
    rw [← keyDs_ok q e]
    exact ⟨_, rfl, h⟩
  | _ => cases e
/-- a dict, read -/
theorem dcont_ok (R : Rl K B F rho om z σ H) {d c : D} {v : V} (r : Rv K F rho om d v) (e : dcont d z = some c) :
    ∃ a, v = .ref a ∧ ((∃ kvs es, c = .dk kvs ∧ Rd H a (.dK es) ∧ Rk K F rho kvs es) ∨ ∃ kvs es, c = .dt kvs ∧ Rd H a (.dT es) ∧ Rk K F rho kvs es) := by
  cases r with
  | pure r =>
    cases r with
    | @dk a es kvs o h k q =>
      cases e
      exact ⟨a, rfl, .inl ⟨kvs, es, rfl, .inr ⟨o, R.rh.fro _ _ h⟩, k, q⟩⟩
    | @dt a es kvs o h k q =>
      cases e
      exact ⟨a, rfl, .inr ⟨kvs, es, rfl, .inr ⟨o, R.rh.fro _ _ h⟩, k, q⟩⟩
    | @ref n a h =>
      unfold dcont at e
      dsimp only at e
      split at e
      · rename_i kvs hx
        cases e
        obtain ⟨es, h1, h2, h3⟩ := R.rh.obs n _ a hx h
        exact ⟨a, rfl, .inl ⟨kvs, es, rfl, .inl h1, h2, h3⟩⟩
      · rename_i kvs hx
        cases e
        obtain ⟨es, h1, h2, h3⟩ := R.rh.obs n _ a hx h
        exact ⟨a, rfl, .inr ⟨kvs, es, rfl, .inl h1, h2, h3⟩⟩
      · cases e
    | _ => cases e
  | @own i a h =>
    unfold dcont at e
    dsimp only at e
    split at e
    · rename_i kvs hx
      cases e
      obtain ⟨a', h1, _, es, h2, h3, h4⟩ := R.sl i _ hx
      rw [h] at h1
      cases h1
      exact ⟨a, rfl, .inl ⟨kvs, es, rfl, .inl h2, h3, h4⟩⟩
    · rename_i kvs hx
      cases e
      obtain ⟨a', h1, _, es, h2, h3, h4⟩ := R.sl i _ hx
      rw [h] at h1
      cases h1
      exact ⟨a, rfl, .inr ⟨kvs, es, rfl, .inl h2, h3, h4⟩⟩
    · cases e
theorem dget_ok (R : Rl K B F rho om z σ H) {x y : D} {xv yv : V} {o : Option D} (rx : Rv K F rho om x xv) (ry : Rv K F rho om y yv) (e : dget x y z = some o) :
    ∃ a, xv = .ref a ∧ ((o = none ∧ DGet H a yv none) ∨ ∃ d v, o = some d ∧ DGet H a yv (some v) ∧ Rp K F rho d v) := by
  unfold dget at e
  cases hc : dcont x z with
  | none => rw [hc] at e; cases e
  | some c =>
    rw [hc] at e
    dsimp only at e
    obtain ⟨a, rfl, h⟩ := dcont_ok R rx hc
    refine ⟨a, rfl, ?_⟩
    have pk : ∀ {k : Key}, keyD y = some k → yv = kV k := fun {k} hk => by
      cases ry with
      | pure ry => exact keyD_ok ry hk
      | own _ => cases hk
    have pt : ∀ {k : List Key}, keyT y = some k → ∃ b, yv = .ref b ∧ H b = some (.tup (k.map kV)) := fun {k} hk => by
      cases ry with
      | pure ry =>
        obtain ⟨b, e1, e2⟩ := keyT_ok ry hk
        exact ⟨b, e1, R.rh.fro _ _ e2⟩
      | own _ => cases hk
    rcases h with ⟨kvs, es, rfl, h1, h2⟩ | ⟨kvs, es, rfl, h1, h2⟩
    · unfold dgetC at e
      dsimp only at e
      cases hk : keyD y with
      | none => rw [hk] at e; cases e
      | some k =>
        rw [hk] at e
        cases e
        rcases h2.get k with ⟨e1, e2⟩ | ⟨d, v, e1, e2, e3⟩
        · exact .inl ⟨e1, .inl ⟨es, k, h1, pk hk, e2.symm⟩⟩
        · exact .inr ⟨d, v, e1, .inl ⟨es, k, h1, pk hk, e2.symm⟩, e3⟩
    · unfold dgetC at e
      dsimp only at e
      cases hk : keyT y with
      | none => rw [hk] at e; cases e
      | some k =>
        rw [hk] at e
        cases e
        obtain ⟨b, eb, hb⟩ := pt hk
        rcases h2.get k with ⟨e1, e2⟩ | ⟨d, v, e1, e2, e3⟩
        · exact .inl ⟨e1, .inr ⟨es, k, b, h1, eb, hb, e2.symm⟩⟩
        · exact .inr ⟨d, v, e1, .inr ⟨es, k, b, h1, eb, hb, e2.symm⟩, e3⟩
end
section
variable {X : Cx} {Tb : List (Addr × Str)}
/-! ### d[k], k in d, d.get -/
theorem dix_go {K : Kx} {ma mb : M D} : ∀ σ H Q, Te K (E.op O.dix ma mb) σ H Q → tDGet (Te K ma) (Te K mb) σ H Q := by
  rintro σ H Q ⟨B, F, rho, om, z, g⟩
  refine (g.bnd.imp fun _ _ H1 _ _ xv _ _ _ _ _ ⟨F2, rho2, z2, x2, eg1, s1, p1, r1, g1⟩ => ?_).tx (R := rV K)
  refine (g1.bnd.imp fun _ _ H2 _ _ yv _ _ _ _ _ ⟨F3, rho3, z3, y3, eg2, s2, p2, r2, g2⟩ => ?_).tx (R := rV K)
  obtain ⟨R, d, z4, e, k⟩ := g2
  dsimp only at e
  split at e
  · cases e
  · rename_i d' hd
    cases e
    unfold O.dix at hd
    split at hd
    · rename_i o ho
      subst hd
      obtain ⟨a, rfl, h⟩ := dget_ok R (r1.mono s2 p2) r2 ho
      rcases h with ⟨h, _⟩ | ⟨d2, v, h, h2, h3⟩
      · cases h
      · cases h
        exact ⟨a, v, rfl, h2, k F3 rho3 H2 v (Same.refl _) (List.prefix_refl _) R (.pure h3)⟩
    · cases hd
theorem me_dix {a b : Expr} {pos : Pos} {ma mb : M D} (hu : X.A.units + 64 < cLine) (ha : PE X a (Te (kx X Tb) ma)) (hb : PE X b (Te (kx X Tb) mb)) (hs : NoSl b := by exact fun _ _ => rfl) : PE X (.Subscript a b pos) (Te (kx X Tb) (E.op O.dix ma mb)) :=
  pe_imp (pe_dget (by omega) ha hb hs) dix_go
theorem din_go {K : Kx} {ma mb : M D} : ∀ σ H Q, Te K (E.op O.din ma mb) σ H Q → tDIn (Te K ma) (Te K mb) σ H Q := by
  rintro σ H Q ⟨B, F, rho, om, z, g⟩
  refine (g.bnd.imp fun _ _ H1 _ _ xv _ _ _ _ _ ⟨F2, rho2, z2, x2, eg1, s1, p1, r1, g1⟩ => ?_).tx (R := rV K)
  refine (g1.bnd.imp fun _ _ H2 _ _ yv _ _ _ _ _ ⟨F3, rho3, z3, y3, eg2, s2, p2, r2, g2⟩ => ?_).tx (R := rV K)
  obtain ⟨R, d, z4, e, k⟩ := g2
  dsimp only at e
  split at e
  · cases e
  · rename_i d' hd
    cases e
    unfold O.din at hd
    split at hd
    · rename_i o ho
      cases hd
      obtain ⟨a, rfl, h⟩ := dget_ok R r2 (r1.mono s2 p2) ho
      rcases h with ⟨rfl, h⟩ | ⟨d2, v, rfl, h2, h3⟩
      · exact ⟨a, none, rfl, h, k F3 rho3 H2 _ (Same.refl _) (List.prefix_refl _) R (.pure (.bl _))⟩
      · exact ⟨a, some v, rfl, h2, k F3 rho3 H2 _ (Same.refl _) (List.prefix_refl _) R (.pure (.bl _))⟩
    · cases hd
theorem dnotIn_go {K : Kx} {ma mb : M D} : ∀ σ H Q, Te K (E.op O.dnotIn ma mb) σ H Q → tDNotIn (Te K ma) (Te K mb) σ H Q := by
  rintro σ H Q ⟨B, F, rho, om, z, g⟩
  refine (g.bnd.imp fun _ _ H1 _ _ xv _ _ _ _ _ ⟨F2, rho2, z2, x2, eg1, s1, p1, r1, g1⟩ => ?_).tx (R := rV K)
  refine (g1.bnd.imp fun _ _ H2 _ _ yv _ _ _ _ _ ⟨F3, rho3, z3, y3, eg2, s2, p2, r2, g2⟩ => ?_).tx (R := rV K)
  obtain ⟨R, d, z4, e, k⟩ := g2
  dsimp only at e
  split at e
  · cases e
  · rename_i d' hd
    cases e
    unfold O.dnotIn at hd
    split at hd
    · rename_i o ho
      cases hd
      obtain ⟨a, rfl, h⟩ := dget_ok R r2 (r1.mono s2 p2) ho
      rcases h with ⟨rfl, h⟩ | ⟨d2, v, rfl, h2, h3⟩
      · exact ⟨a, none, rfl, h, k F3 rho3 H2 _ (Same.refl _) (List.prefix_refl _) R (.pure (.bl _))⟩
      · exact ⟨a, some v, rfl, h2, k F3 rho3 H2 _ (Same.refl _) (List.prefix_refl _) R (.pure (.bl _))⟩
    · cases hd
theorem me_din {a b : Expr} {pos : Pos} {ma mb : M D} (hu : X.A.units + 64 < cLine) (ha : PE X a (Te (kx X Tb) ma)) (hb : PE X b (Te (kx X Tb) mb)) (hm : behindInMarks .In b = false := by rfl) : PE X (.Compare a [.In] [b] pos) (Te (kx X Tb) (E.op O.din ma mb)) := pe_imp (pe_cmp (pc_din (by omega) ha hb) hm) din_go
theorem mt_din {a b : Expr} {pos : Pos} {ma mb : M D} (hu : X.A.units + 64 < cLine) (ha : PE X a (Te (kx X Tb) ma)) (hb : PE X b (Te (kx X Tb) mb)) (hm : behindInMarks .In b = false := by rfl) : PT X (.Compare a [.In] [b] pos) (Tt (kx X Tb) (T.val (E.op O.din ma mb))) := pt_imp (pt_cmp (pc_din (by omega) ha hb) hm) (tv_go din_go)
theorem me_dnotIn {a b : Expr} {pos : Pos} {ma mb : M D} (hu : X.A.units + 64 < cLine) (ha : PE X a (Te (kx X Tb) ma)) (hb : PE X b (Te (kx X Tb) mb)) (hm : behindInMarks .NotIn b = false := by rfl) : PE X (.Compare a [.NotIn] [b] pos) (Te (kx X Tb) (E.op O.dnotIn ma mb)) := pe_imp (pe_cmp (pc_dnotin (by omega) ha hb) hm) dnotIn_go
theorem mt_dnotIn {a b : Expr} {pos : Pos} {ma mb : M D} (hu : X.A.units + 64 < cLine) (ha : PE X a (Te (kx X Tb) ma)) (hb : PE X b (Te (kx X Tb) mb)) (hm : behindInMarks .NotIn b = false := by rfl) : PT X (.Compare a [.NotIn] [b] pos) (Tt (kx X Tb) (T.val (E.op O.dnotIn ma mb))) := pt_imp (pt_cmp (pc_dnotin (by omega) ha hb) hm) (tv_go dnotIn_go)
theorem isD_ok {K : Kx} {B : Bs} {F : Hp} {rho : List Addr} {om : Nat → Option Addr} {z : Z} {σ : L2.St} {H : Hp} {x : D} {v : V} (R : Rl K B F rho om z σ H) (r : Rv K F rho om x v) (h : (dcont x z).isSome = true) : ∃ a, v = .ref a ∧ IsD H a := by
  cases hc : dcont x z with
  | none => rw [hc] at h; cases h
  | some c =>
    obtain ⟨a, rfl, q⟩ := dcont_ok R r hc
    rcases q with ⟨kvs, es, _, q, _⟩ | ⟨kvs, es, _, q, _⟩
    · exact ⟨a, rfl, .inl ⟨es, q⟩⟩
    · exact ⟨a, rfl, .inr ⟨es, q⟩⟩
theorem get1_go {K : Kx} {ma mb : M D} : ∀ σ H Q, Te K (E.get1 ma mb) σ H Q → tDGet1 (Te K ma) (Te K mb) σ H Q := by
  rintro σ H Q ⟨B, F, rho, om, z, g⟩
  refine (g.bnd.imp fun _ _ H1 _ _ xv _ _ _ _ _ ⟨F2, rho2, z2, x2, eg1, s1, p1, r1, g1⟩ => ?_).tx (R := rV K)
  obtain ⟨R, d, z4, e, k⟩ := g1
  dsimp only at e
  split at e
  · rename_i hd
    obtain ⟨a, rfl, hi⟩ := isD_ok R r1 hd
    refine ⟨a, rfl, hi, ?_⟩
    have g2 : Go K (rV K) B F2 rho2 om (bnd mb fun y z => match dget x2 y z with | some o => some (o.getD .non, z) | none => none) z2 σ H1 Q := ⟨R, d, z4, e, k⟩
    refine (g2.bnd.imp fun _ _ H2 _ _ yv _ _ _ _ _ ⟨F3, rho3, z3, y3, eg2, s2, p2, r2, g3⟩ => ?_).tx (R := rV K)
    obtain ⟨R3, d3, z5, e3, k3⟩ := g3
    dsimp only at e3
    split at e3
    · rename_i o ho
      cases e3
      obtain ⟨a2, ea, h⟩ := dget_ok R3 (r1.mono s2 p2) r2 ho
      cases ea
      rcases h with ⟨rfl, h⟩ | ⟨d2, v, rfl, h2, h3⟩
      · exact ⟨none, h, k3 F3 rho3 H2 _ (Same.refl _) (List.prefix_refl _) R3 (.pure .non)⟩
      · exact ⟨some v, h2, k3 F3 rho3 H2 _ (Same.refl _) (List.prefix_refl _) R3 (.pure h3)⟩
    · cases e3
  · cases e
theorem me_get1 {o e : Expr} {apos cpos : Pos} {ma mb : M D} (hu : X.A.units + 64 < cLine) (ha : PE X o (Te (kx X Tb) ma)) (hb : PE X e (Te (kx X Tb) mb)) (m : M1 X o "get" apos e cpos := by exact ⟨rfl, rfl, rfl, rfl⟩) : PE X (.Call (.Attribute o "get" apos) [e] [] cpos) (Te (kx X Tb) (E.get1 ma mb)) :=
  pe_imp (pe_dget1 (by omega) ha hb m) get1_go
theorem get2_go {K : Kx} {ma mb mc : M D} : ∀ σ H Q, Te K (E.get2 ma mb mc) σ H Q → tDGet2 (Te K ma) (Te K mb) (Te K mc) σ H Q := by
  rintro σ H Q ⟨B, F, rho, om, z, g⟩
  refine (g.bnd.imp fun _ _ H1 _ _ xv _ _ _ _ _ ⟨F2, rho2, z2, x2, eg1, s1, p1, r1, g1⟩ => ?_).tx (R := rV K)
  obtain ⟨R, d, z4, e, k⟩ := g1
  dsimp only at e
  split at e
  · rename_i hd
    obtain ⟨a, rfl, hi⟩ := isD_ok R r1 hd
    refine ⟨a, rfl, hi, ?_⟩
    have g2 : Go K (rV K) B F2 rho2 om (bnd mb fun y => bnd mc fun w z => if isPure w = true then match dget x2 y z with | some o => some (o.getD w, z) | none => none else none) z2 σ H1 Q := ⟨R, d, z4, e, k⟩
    refine (g2.bnd.imp fun _ _ H2 _ _ yv _ _ _ _ _ ⟨F3, rho3, z3, y3, eg2, s2, p2, r2, g3⟩ => ?_).tx (R := rV K)
    refine (g3.bnd.imp fun _ _ H4 _ _ wv _ _ _ _ _ ⟨F5, rho5, z5, w5, eg5, s5, p5, r5, g5⟩ => ?_).tx (R := rV K)
    obtain ⟨R3, d3, z6, e3, k3⟩ := g5
    dsimp only at e3
    split at e3
    · rename_i hw
      split at e3
      · rename_i o ho
        cases e3
        obtain ⟨a2, ea, h⟩ := dget_ok R3 ((r1.mono s2 p2).mono s5 p5) (r2.mono s5 p5) ho
        cases ea
        rcases h with ⟨rfl, h⟩ | ⟨d2, v, rfl, h2, h3⟩
        · exact ⟨none, h, k3 F5 rho5 H4 _ (Same.refl _) (List.prefix_refl _) R3 r5⟩
        · exact ⟨some v, h2, k3 F5 rho5 H4 _ (Same.refl _) (List.prefix_refl _) R3 (.pure h3)⟩
      · cases e3
    · cases e3
  · cases e
theorem me_get2 {o e f : Expr} {apos cpos : Pos} {ma mb mc : M D} (hu : X.A.units + 64 < cLine) (ha : PE X o (Te (kx X Tb) ma)) (hb : PE X e (Te (kx X Tb) mb)) (hc : PE X f (Te (kx X Tb) mc)) (m : M2 X o "get" apos e f cpos := by exact ⟨rfl, rfl, rfl, rfl⟩) : PE X (.Call (.Attribute o "get" apos) [e, f] [] cpos) (Te (kx X Tb) (E.get2 ma mb mc)) :=
  pe_imp (pe_dget2 (by omega) ha hb hc m) get2_go

/-! ### new objects -/
abbrev rN (K : Kx) : RelT D V := fun B F rho om H d v => ∃ p, v = .ref p ∧ Fresh K B F rho om H p ∧ Ob K F rho H p d
abbrev Tn (K : Kx) (m : M D) : TE := Tx K (rN K) m
theorem mn_dnewK {pos : Pos} : PE X (.Dict [] [] pos) (Tn (kx X Tb) (ret (.dk []))) := by
  refine pe_imp pe_dnewK fun σ H Q ⟨B, F, rho, om, z, R, d, z', e, k⟩ => ?_
  cases e
  intro p hp
  obtain ⟨R2, f2⟩ := R.new (o := .dK []) hp
  exact k F rho _ _ (Same.refl _) (List.prefix_refl _) R2 ⟨p, rfl, f2, [], upd_same, rfl, .nil⟩
theorem mn_dnewT {pos : Pos} : PE X (.Dict [] [] pos) (Tn (kx X Tb) (ret (.dt []))) := by
  refine pe_imp pe_dnewT fun σ H Q ⟨B, F, rho, om, z, R, d, z', e, k⟩ => ?_
  cases e
  intro p hp
  obtain ⟨R2, f2⟩ := R.new (o := .dT []) hp
  exact k F rho _ _ (Same.refl _) (List.prefix_refl _) R2 ⟨p, rfl, f2, [], upd_same, rfl, .nil⟩
/-- a new list, as such a thing -/
theorem mn_lst {e : Expr} {m : M (List D)} (h : PE X e (Tf (kx X Tb) m)) : PE X e (Tn (kx X Tb) (bnd m fun ds => ret (.lst ds))) := by
  refine pe_imp h fun σ H Q ⟨B, F, rho, om, z, g⟩ => ?_
  refine (g.bnd.imp fun _ _ H1 _ _ v _ _ _ _ _ ⟨F2, rho2, z2, xs, eg1, s1, p1, ⟨p, vs, hv, hp, f, r1⟩, g1⟩ => ?_).tx (R := rF (kx X Tb))
  exact g1.ret _ ⟨p, hv, f, vs, hp, r1⟩
theorem me_shrN {e : Expr} {m : M D} (h : PE X e (Tn (kx X Tb) m)) : PE X e (Te (kx X Tb) (E.shrN m)) := by
  refine pe_imp h fun σ H Q ⟨B, F, rho, om, z, g⟩ => ?_
  refine (g.bnd.imp fun _ _ H1 _ _ v _ _ _ _ _ ⟨F2, rho2, z2, d, eg1, s1, p1, ⟨p, hv, f, r1⟩, g1⟩ => ?_).tx (R := rN (kx X Tb))
  subst hv
  obtain ⟨R, d', z4, e, k⟩ := g1
  cases e
  obtain ⟨R3, q3⟩ := R.share (d := d) f r1
  exact k _ _ _ _ (Same.refl _) (List.prefix_append _ _) R3 (.pure (.ref q3))
theorem ownN_go {K : Kx} {i : Nat} {m : M D} {te : TE} (h : ∀ σ H Q, Tn K m σ H Q → te σ H Q) : ∀ D σ H, Ts K (C.ownN i m) D σ H → tAsg te (gName i) D σ H := by
  rintro D σ H ⟨B, F, rho, om, z, R, f, z', e, k⟩
  obtain ⟨d, z1, e1, e2⟩ := bnd_some e
  refine h σ H _ ⟨B, F, rho, om, z, R, d, z1, e1, fun F1 rho1 H1 v s p R1 ⟨a, hv, f0, r1⟩ => ?_⟩
  subst hv
  try dsimp only at e2
  split at e2
  · rename_i hl
    cases e2
    exact k F1 rho1 _ _ H1 s p (R1.setOwn i hl f0 r1)
  · cases e2
theorem ms_ownN {i : Nat} {x : Str} {e : Expr} {m : M D} {pos pos' : Pos} (hN : X.N.Nodup) (he : PE X e (Tn (kx X Tb) m)) (hi : X.N[i]? = some x := by rfl) (hx : Loc X.env.scope x := by first | exact Or.inl rfl | exact Or.inr rfl)
    (hs : swapsWith e (some (.Name x pos')) pos.line X.env = pure false := by rfl) (hf : X.fn x = true ∨ X.env.scope.names.lookup x = some .local := by first | exact .inl rfl | exact .inr rfl) : PS X (.Assign [.Name x pos'] e pos) (Ts (kx X Tb) (C.ownN i m)) :=
  ps_imp (ps_set hN hi hx he hs hf) (ownN_go fun _ _ _ h => h)
/-! ### d[k] = e -/
theorem dput_rel {K : Kx} {F : Hp} {rho : List Addr} {H : Hp} {a : Addr} {c c' y v : D} {yv vv : V} (fro : Same F H) (ob : Ob K F rho H a c) (ry : Rp K F rho y yv) (rv : Rp K F rho v vv) (e : dputC c y v = some c') :
    ∃ o, DPut H a yv vv (upd H a o) ∧ Ob K F rho (upd H a o) a c' := by
  unfold dputC at e
  split at e
  · rename_i kvs
    obtain ⟨es, h1, h2, h3⟩ := ob
    split at e
    · rename_i k hk
      split at e
      · rename_i hz
        cases e
        have r := Rk.put (K := K) (F := F) (rho := rho) k rv ⟨h2, h3⟩
        refine ⟨_, .inl ⟨es, k, h1, keyD_ok ry hk, ?_, rfl⟩, _, upd_same, r.1, r.2⟩
        rw [Rk.length (K := K) (F := F) (rho := rho) ⟨h2, h3⟩]
        exact szl_ok hz
      · cases e
    · cases e
  · rename_i kvs
    obtain ⟨es, h1, h2, h3⟩ := ob
    split at e
    · rename_i k hk
      split at e
      · rename_i hz
        cases e
        have r := Rk.put (K := K) (F := F) (rho := rho) k rv ⟨h2, h3⟩
        obtain ⟨b, eb, hb⟩ := keyT_ok ry hk
        refine ⟨_, .inr ⟨es, k, b, h1, eb, fro _ _ hb, ?_, rfl⟩, _, upd_same, r.1, r.2⟩
        rw [Rk.length (K := K) (F := F) (rho := rho) ⟨h2, h3⟩]
        exact szl_ok hz
      · cases e
    · cases e
  · cases e
theorem dput_pure {c y v c' : D} (h : dputC c y v = some c') : isPure y = true := by
  unfold dputC at h
  cases y <;> first | rfl | (split at h <;> first | cases h | (split at h <;> first | cases h | (rename_i hk; cases hk)))
theorem ms_dput {o i e : Expr} {ma mk me : M D} {p pos : Pos} (hu : X.A.units + 64 < cLine) (he : PE X e (Te (kx X Tb) me)) (ha : PE X o (Te (kx X Tb) ma)) (hk : PE X i (Te (kx X Tb) mk)) (hs : swapsWith e (some (.Subscript o i p)) pos.line X.env = pure false := by rfl) :
    PS X (.Assign [.Subscript o i p] e pos) (Ts (kx X Tb) (C.dput ma mk me)) := by
  refine ps_imp (ps_dput (by omega) ha hk he hs) fun D σ H ⟨B, F, rho, om, z, R, f, z', e, k⟩ => ?_
  obtain ⟨d, z1, e1, e2⟩ := bnd_some e
  refine ⟨B, F, rho, om, z, R, d, z1, e1, fun F1 rho1 H1 v s1 p1 R1 r1 => ?_⟩
  obtain ⟨x, z2, e3, e4⟩ := bnd_some e2
  refine ⟨B, F1, rho1, om, z1, R1, x, z2, e3, fun F2 rho2 H2 w s2 p2 R2 r2 => ?_⟩
  obtain ⟨y, z3, e5, e6⟩ := bnd_some e4
  refine ⟨B, F2, rho2, om, z2, R2, y, z3, e5, fun F3 rho3 H3 u s3 p3 R3 r3 => ?_⟩
  try dsimp only at e6
  split at e6
  · rename_i hp
    have rd : Rp (kx X Tb) F3 rho3 d v := ((r1.of_pure hp).mono s2 p2).mono s3 p3
    have r2' := r2.mono s3 p3
    split at e6
    · rename_i j
      cases r2' with
      | pure r2' => cases r2'
      | own h =>
        split at e6
        · rename_i c hc
          split at e6
          · rename_i c' hd
            cases e6
            obtain ⟨a', h1, h5, h2⟩ := R3.sl _ _ hc
            rw [h] at h1
            cases h1
            obtain ⟨o, q1, q2⟩ := dput_rel R3.rh.fro h2 (r3.of_pure (dput_pure hd)) rd hd
            exact ⟨_, _, rfl, q1, k F3 rho3 _ _ _ ((s1.trans s2).trans s3) ((p1.trans p2).trans p3) (R3.mutOwn h hc q2)⟩
          · cases e6
        · cases e6
    · rename_i n
      cases r2' with
      | pure r2' =>
        cases r2' with
        | ref h =>
          split at e6
          · rename_i c hc
            split at e6
            · rename_i c' hd
              cases e6
              obtain ⟨o, q1, q2⟩ := dput_rel R3.rh.fro (R3.rh.obs n _ _ hc h) (r3.of_pure (dput_pure hd)) rd hd
              exact ⟨_, _, rfl, q1, k F3 rho3 _ _ _ ((s1.trans s2).trans s3) ((p1.trans p2).trans p3) (R3.mutRef h q2)⟩
            · cases e6
          · cases e6
    · cases e6
  · cases e6
end
end Mi

set_option Elab.async false
set_option linter.all false
set_option maxRecDepth 100000
/-! Mi, part L: dicts that are laid down, displays, sorted(d), slices. -/
namespace Mi
open PySem PySem.Spec PyProof.Rows L2 PySem.W
/-! ### a dict is laid down: it is locked for ever -/
namespace E
def frzD (m : M D) : M D := bnd m fun d => if C.isDict d = true then Mi.ret d else fun _ => none
end E
section
variable {K : Kx} {B : Bs} {F : Hp} {rho : List Addr} {om : Nat → Option Addr} {z : Z} {σ : L2.St} {H : Hp} {p : Addr}
theorem ob_dict {d : D} (h : Ob K F rho H p d) (hd : C.isDict d = true) : ∃ u, H p = some u ∧ Mut (some u) ∧ NT u ∧ ∀ {F' : Hp} {rho' : List Addr} (o : Obj), Same F F' → rho <+: rho' → F' p = some (.frz o u) → Rp K F' rho' d (.ref p) := by
  cases d <;> try (cases hd; done)
  · obtain ⟨es, h1, h2, h3⟩ := h
    exact ⟨_, h1, trivial, (fun _ e => nomatch e), fun o s q e => .dk e h2 (h3.mono s q)⟩
  · obtain ⟨es, h1, h2, h3⟩ := h
    exact ⟨_, h1, trivial, (fun _ e => nomatch e), fun o s q e => .dt e h2 (h3.mono s q)⟩
/-- an object of nobody's, locked, is laid down -/
theorem Rl.lock (R : Rl K B F rho om z σ H) (f : Fresh K B F rho om H p) {u : HO} (o : Obj) : ∃ F', Rl K B F' rho om z σ (upd H p (.frz o u)) ∧ Same F F' ∧ F' p = some (.frz o u) := by
  obtain ⟨R1, f1⟩ := R.mutFresh (o := .frz o u) f
  obtain ⟨R2, s2⟩ := R1.lay f1 upd_same
  exact ⟨_, R2, s2, upd_same⟩
end
section
variable {X : Cx} {Tb : List (Addr × Str)}
theorem pe_lk {e : Expr} {t : TE} (h : PE X e t) : PE X e fun σ H Q => t σ H fun v H1 => ∃ d u, v = .ref d ∧ H1 d = some u ∧ Mut (some u) ∧ ∀ od, Q v (upd H1 d (.frz od u)) := by
  refine ⟨fun pins s σ H Q I hw => ?_⟩
  refine thn (h.run pins s σ H _ I hw) fun v s1 ⟨x, H1, I1, r, d, u, ex, hd, mu, q⟩ => ?_
  obtain ⟨od, I2⟩ := I1.lock hd mu
  exact ⟨x, _, I2, r, q od⟩
theorem pss_lk {st : List Stmt} {t : L2.TS} (h : PSs X st t) : PSs X st fun D σ H => ∃ d u, H d = some u ∧ Mut (some u) ∧ ∀ od, t D σ (upd H d (.frz od u)) := by
  refine ⟨fun pins s σ H D I hw => ?_⟩
  obtain ⟨d, u, hd, mu, q⟩ := hw
  obtain ⟨od, I2⟩ := I.lock hd mu
  exact h.run pins s σ _ D I2 (q od)
theorem me_frzD {e : Expr} {m : M D} (h : PE X e (Tn (kx X Tb) m)) : PE X e (Te (kx X Tb) (E.frzD m)) := by
  refine pe_imp (pe_lk h) fun σ H Q ⟨B, F, rho, om, z, g⟩ => ?_
  refine (g.bnd.imp fun _ _ H1 _ _ v _ _ _ _ _ ⟨F2, rho2, z2, d, eg1, s1, p1, ⟨p, hv, f, r1⟩, g1⟩ => ?_).tx (R := rN (kx X Tb))
  subst hv
  obtain ⟨R, d', z4, e, k⟩ := g1
  split at e
  · rename_i hd
    cases e
    obtain ⟨u, h1, mu, _, r2⟩ := ob_dict r1 hd
    refine ⟨p, u, rfl, h1, mu, fun od => ?_⟩
    obtain ⟨F3, R3, s3, q3⟩ := R.lock (u := u) f od
    exact k F3 rho2 _ _ s3 (List.prefix_refl _) R3 (.pure (r2 od s3 (List.prefix_refl _) q3))
  · cases e
theorem ms_retD {e : Expr} {m : M D} {pos : Pos} (he : PE X e (Te (kx X Tb) m)) : PS X (.Return (some e) pos) (Ts (kx X Tb) (C.retD m)) := by
  refine ps_imp (ps_ret (pe_lk he)) fun D σ H ⟨B, F, rho, om, z, R, f, z', e, k⟩ => ?_
  obtain ⟨x, z1, e1, e2⟩ := bnd_some e
  refine ⟨B, F, rho, om, z, R, x, z1, e1, fun F1 rho1 H1 v s p R1 r1 => ?_⟩
  cases r1 with
  | pure r1 => cases x <;> first | (cases e2; done) | (cases r1; done)
  | @own i a h =>
    dsimp only at e2
    split at e2
    · rename_i d hs
      split at e2
      · rename_i hd
        cases e2
        obtain ⟨a', h1, h2, h5⟩ := R1.sl i _ hs
        rw [h] at h1
        cases h1
        obtain ⟨u, q1, mu, _, r2⟩ := ob_dict h5 hd
        refine ⟨a, u, rfl, q1, mu, fun od => ?_⟩
        have f0 := R1.freshOwn h
        obtain ⟨F3, R3, s3, q3⟩ := (R1.forget i).lock (u := u) f0 od
        exact k F3 rho1 _ σ _ _ (s.trans s3) p R3 (r2 od s3 (List.prefix_refl _) q3)
      · cases e2
    · cases e2
theorem ms_retR {e : Expr} {m : M D} {pos : Pos} (he : PE X e (Te (kx X Tb) m)) : PS X (.Return (some e) pos) (Ts (kx X Tb) (C.retR m)) := by
  refine ps_imp (ps_ret he) fun D σ H ⟨B, F, rho, om, z, R, f, z', e, k⟩ => ?_
  obtain ⟨x, z1, e1, e2⟩ := bnd_some e
  refine ⟨B, F, rho, om, z, R, x, z1, e1, fun F1 rho1 H1 v s p R1 r1 => ?_⟩
  cases r1 with
  | pure r1 => cases x <;> first | (cases e2; done) | (cases r1; done)
  | @own i a h =>
    dsimp only at e2
    split at e2
    · rename_i d hs
      cases e2
      obtain ⟨a', h1, h2, h5⟩ := R1.sl i _ hs
      rw [h] at h1
      cases h1
      have f0 := R1.freshOwn h
      obtain ⟨R2, q2⟩ := (R1.forget i).share (d := d) f0 h5
      exact k F1 _ _ σ H1 _ s (p.trans (List.prefix_append _ _)) R2 (.ref q2)
    · cases e2
theorem mss_frzD {rest : List Stmt} {b : C} (i : Nat) (h : PSs X rest (Ts (kx X Tb) b)) : PSs X rest (Ts (kx X Tb) (C.seq (C.frzD i) b)) := by
  refine pss_imp (pss_lk h) fun D σ H ⟨B, F, rho, om, z, R, f, z', e, k⟩ => ?_
  unfold C.seq C.frzD at e
  cases hs : z.s[i]? with
  | none =>
    rw [hs] at e
    cases e
  | some x =>
    cases x with
    | own d =>
      rw [hs] at e
      dsimp only at e
      by_cases hd : C.isDict d = true
      · rw [if_pos hd] at e
        have e : b ⟨z.s.set i (.val d), z.h⟩ = some (f, z') := e
        obtain ⟨a, h1, h2, h3⟩ := R.sl i _ hs
        have f0 := R.freshOwn h1
        obtain ⟨u, q1, mu, _, r2⟩ := ob_dict h3 hd
        refine ⟨a, u, q1, mu, fun od => ?_⟩
        obtain ⟨F3, R3, s3, q3⟩ := (R.forget i).lock (u := u) f0 od
        have hσ : σ.set i (some (V.ref a)) = σ := by
          refine List.ext_getElem? fun j => ?_
          by_cases c : j = i
          · subst c
            rw [h2, List.getElem?_set_self (List.getElem?_eq_some_iff.mp h2).1]
          · rw [List.getElem?_set_ne (Ne.symm c)]
        have R4 := R3.setVal i (r2 od s3 (List.prefix_refl _) q3)
        rw [hσ] at R4
        have ez : (⟨(z.s.set i Sl.no).set i (.val d), z.h⟩ : Z) = ⟨z.s.set i (.val d), z.h⟩ := by rw [List.set_set]
        have R4 : Rl (kx X Tb) B _ rho (omSet (omSet om i none) i none) ⟨(z.s.set i Sl.no).set i (.val d), z.h⟩ σ _ := R4
        rw [ez] at R4
        exact ⟨B, _, rho, _, _, R4, f, z', e, k.mono s3 (List.prefix_refl _)⟩
      · rw [if_neg hd] at e
        cases e
    | _ =>
      rw [hs] at e
      cases e
/-! ### {k: v, ..} -/
end
namespace E
def pairs : List (M D × M D) → M (List (Key × D))
  | [] => Mi.ret []
  | (a, b) :: r => bnd a fun x => bnd b fun y => bnd (pairs r) fun ps => match keyD x with
    | some k => if isPure y = true then Mi.ret ((k, y) :: ps) else fun _ => none
    | none => fun _ => none
end E
def mergeG {κ α : Type} [DecidableEq κ] (kvs more : List (κ × α)) : List (κ × α) := more.foldl (fun acc kv => putG acc kv.1 kv.2) kvs
namespace N
def dispK (prs : List (M D × M D)) : M D := bnd (E.pairs prs) fun ps => Mi.ret (.dk (mergeG [] ps))
end N
theorem Rk.merge {K : Kx} {F : Hp} {rho : List Addr} : ∀ {more : List (Key × D)} {es : List (Key × V)} {kvs : List (Key × D)} {vs : List (Key × V)}, Rk K F rho more es → Rk K F rho kvs vs → Rk K F rho (mergeG kvs more) (mergeK vs es)
  | [], es, kvs, vs, r, q => by
    have := r.length
    cases es with
    | nil => exact q
    | cons _ _ => simp at this
  | (j, d) :: more, es, kvs, vs, r, q => by
    obtain ⟨v, es', rfl, h1, h2⟩ := r.uncons
    show Rk K F rho (mergeG (putG kvs j d) more) (mergeK (putK vs j v) es')
    exact Rk.merge h2 (q.put (K := K) (F := F) (rho := rho) j h1)
theorem Rk.mono {K : Kx} {F F' : Hp} {rho rho' : List Addr} {κ : Type} {kvs : List (κ × D)} {es : List (κ × V)} (s : Same F F') (p : rho <+: rho') (r : Rk K F rho kvs es) : Rk K F' rho' kvs es := ⟨r.1, r.2.mono s p⟩
abbrev rPs (K : Kx) : RelT (List (Key × D)) (List (V × V)) := fun _ F rho _ _ ps vs => ∃ es : List (Key × V), vs = es.map (fun kv => (kV kv.1, kv.2)) ∧ Rk K F rho ps es
theorem pairs_go {K : Kx} : ∀ (prs : List (M D × M D)) {B : Bs} {F : Hp} {rho : List Addr} {om : Nat → Option Addr} {z : Z} {σ : L2.St} {H : Hp} {Q : List (V × V) → Hp → Prop}, Go K (rPs K) B F rho om (E.pairs prs) z σ H Q → tPairs (prs.map fun p => (Te K p.1, Te K p.2)) σ H Q
  | [], B, F, rho, om, z, σ, H, Q, g => g.ret _ ⟨[], rfl, .nil⟩
  | (a, b) :: r, B, F, rho, om, z, σ, H, Q, g => by
    have g : Go K (rPs K) B F rho om (bnd a fun x => bnd b fun y => bnd (E.pairs r) fun ps => match keyD x with
      | some k => if isPure y = true then Mi.ret ((k, y) :: ps) else fun _ => none
      | none => fun _ => none) z σ H Q := g
    refine (g.bnd.imp fun _ _ H1 _ _ xv _ _ _ _ _ ⟨F2, rho2, z2, x2, eg1, s1, p1, r1, g1⟩ => ?_).tx (R := rV K)
    refine (g1.bnd.imp fun _ _ H2 _ _ yv _ _ _ _ _ ⟨F3, rho3, z3, y3, eg2, s2, p2, r2, g2⟩ => ?_).tx (R := rV K)
    refine pairs_go r (g2.bnd.imp fun _ _ H4 _ _ vs _ _ _ _ _ ⟨F5, rho5, z5, ps5, eg5, s5, p5, ⟨es, hv, rk⟩, g5⟩ => ?_)
    cases hk : keyD x2 with
    | none =>
      rw [hk] at g5
      obtain ⟨_, _, _, e, _⟩ := g5
      cases e
    | some k =>
      rw [hk] at g5
      dsimp only at g5
      by_cases hp : isPure y3 = true
      · rw [if_pos hp] at g5
        have ex : xv = kV k := by
          cases r1 with
          | pure r1 => exact keyD_ok r1 hk
          | own _ => cases hk
        refine g5.ret _ ⟨(k, yv) :: es, ?_, .cons ((r2.mono s5 p5).of_pure hp) rk⟩
        rw [hv, ex]
        rfl
      · rw [if_neg hp] at g5
        obtain ⟨_, _, _, e, _⟩ := g5
        cases e
section
variable {X : Cx} {Tb : List (Addr × Str)}
theorem mp_nil {pos : Pos} : PPs X pos [] [] (([] : List (M D × M D)).map fun p => (Te (kx X Tb) p.1, Te (kx X Tb) p.2)) := pps_nil
theorem mp_cons {pos : Pos} {k v : Expr} {ks : List (Option Expr)} {vs : List Expr} {mk mv : M D} {prs : List (M D × M D)} (hk : PE X k (Te (kx X Tb) mk)) (hv : PE X v (Te (kx X Tb) mv)) (hr : PPs X pos ks vs (prs.map fun p => (Te (kx X Tb) p.1, Te (kx X Tb) p.2))) :
    PPs X pos (some k :: ks) (v :: vs) (((mk, mv) :: prs).map fun p => (Te (kx X Tb) p.1, Te (kx X Tb) p.2)) := pps_cons hk hv hr
theorem pairs_len : ∀ {prs : List (M D × M D)} {z z' : Z} {ps : List (Key × D)}, E.pairs prs z = some (ps, z') → ps.length = prs.length
  | [], z, z', ps, h => by cases h; rfl
  | (a, b) :: r, z, z', ps, h => by
    obtain ⟨x, z1, _, h2⟩ := bnd_some h
    obtain ⟨y, z2, _, h4⟩ := bnd_some h2
    obtain ⟨qs, z3, h5, h6⟩ := bnd_some h4
    cases hk : keyD x with
    | none => rw [hk] at h6; cases h6
    | some k =>
      rw [hk] at h6
      dsimp only at h6
      split at h6
      · cases h6
        rw [List.length_cons, List.length_cons, pairs_len h5]
      · cases h6
theorem mn_disp {pos : Pos} {keys : List (Option Expr)} {values : List Expr} {prs : List (M D × M D)} (h : PPs X pos keys values (prs.map fun p => (Te (kx X Tb) p.1, Te (kx X Tb) p.2))) (hall : keys.all (·.isSome) = true := by rfl) (hl : keys.length = values.length := by rfl) (h0 : keys ≠ [] := by exact fun e => nomatch e)
    (h15 : keys.length ≤ 15 := by decide) (hp : prs.length ≤ 15 := by decide) : PE X (.Dict keys values pos) (Tn (kx X Tb) (N.dispK prs)) := by
  refine pe_imp (pe_disp h hall hl h0 h15) fun σ H Q ⟨B, F, rho, om, z, R, d, z', e, k⟩ => ?_
  intro p hnew
  obtain ⟨ps, z1, e1, e2⟩ := bnd_some e
  cases e2
  obtain ⟨R1, f1⟩ := R.new (o := .dK []) hnew
  refine pairs_go prs ⟨R1.reb, ps, _, e1, fun F2 rho2 H2 vs s2 p2 R2 ⟨es, hv, rk⟩ => ?_⟩
  obtain ⟨f2, hH⟩ := f1.through R2 fun _ h => h
  have hl2 := rk.length
  have hl3 := pairs_len e1
  refine ⟨hH.trans upd_same, es, hv, by omega, ?_⟩
  obtain ⟨R3, f3⟩ := (R1.back R2).mutFresh (o := .dK (mergeK [] es)) f2
  exact k F2 rho2 _ _ s2 p2 R3 ⟨p, rfl, f3, _, upd_same, (Rk.merge rk .nil).1, (Rk.merge rk .nil).2⟩
end
/-! ### sorted(d), the dict laid down -/
def dkey : Key → D
  | .inl i => .int i
  | .inr s => .str s
inductive KeyV (H : Hp) : V → D → Prop
  | k (k : Key) : KeyV H (kV k) (dkey k)
  | t (ks : List Key) {q : Addr} : H q = some (.tup (ks.map kV)) → KeyV H (.ref q) (.tup (ks.map dkey))
/-- the keys, as values -/
def dkeys : D → Option (List D)
  | .dk kvs => some (kvs.map fun e => dkey e.1)
  | .dt kvs => some (kvs.map fun e => .tup (e.1.map dkey))
  | _ => none
def rSrtD (K : PySem.W.Frag) : List V → Hp → VK → Prop := fun vs H Q => ∃ (a : Addr) (o : Obj) (ks : List D), vs = [V.ref a] ∧
  ((∃ kvs : List (Key × V), H a = some (.frz o (.dK kvs)) ∧ ks = kvs.map fun e => dkey e.1) ∨ ∃ kvs : List (List Key × V), H a = some (.frz o (.dT kvs)) ∧ ks = kvs.map fun e => .tup (e.1.map dkey)) ∧
  AllAlike (ks.map pk) ∧ PySem.W.Sortable (ks.map pk) ∧ (∀ d ∈ ks, (pk d).depth ≤ 40) ∧ ks.length ≤ sizeLine ∧ ∀ ys p, EachIs (KeyV H) ys (srt pk ks) → H p = none → Q (.ref p) (upd H p (.lst ys))
theorem toP_key (k : Key) : O.toP (dkey k) = some (pk (dkey k)) := by
  cases k <;> rfl
theorem dp_key {K : PySem.W.Frag} {H : Hp} (k : Key) : Dp K H (kV k) (pk (dkey k)) := by
  cases k with
  | inl i => exact .int i
  | inr s => exact .str s
theorem dp_keys {K : PySem.W.Frag} {H : Hp} : ∀ (ks : List Key), DpAll K H (ks.map kV) (ks.map fun k => pk (dkey k))
  | [] => .nil
  | k :: ks => .cons (dp_key k) (dp_keys ks)
theorem toPs_keys : ∀ (ks : List Key), O.toPs (ks.map dkey) = some (ks.map fun k => pk (dkey k))
  | [] => rfl
  | k :: ks => by
    rw [List.map_cons, O.toPs, toP_key, toPs_keys ks]
    rfl
theorem pk_tup (ks : List Key) : pk (.tup (ks.map dkey)) = .tuple (ks.map fun k => pk (dkey k)) := by
  unfold pk
  rw [O.toP, toPs_keys]
  rfl
theorem KeyV.dp {K : PySem.W.Frag} {H : Hp} {v : V} {d : D} (h : KeyV H v d) : Dp K H v (pk d) := by
  cases h with
  | k k => exact dp_key k
  | t ks h =>
    rw [pk_tup]
    exact .tup (SqT.of h) (dp_keys ks)
theorem each_of_get {α β : Type} {R : α → β → Prop} : ∀ {as : List α} {bs : List β}, as.length = bs.length → (∀ (i : Nat) (a : α) (b : β), as[i]? = some a → bs[i]? = some b → R a b) → EachIs R as bs
  | [], [], _, _ => .nil
  | [], _ :: _, h, _ => by simp at h
  | _ :: _, [], h, _ => by simp at h
  | a :: as, b :: bs, h, k => .cons (k 0 a b rfl rfl) (each_of_get (by simpa using h) fun i x y h1 h2 => k (i + 1) x y (by simpa using h1) (by simpa using h2))
section
variable {X : Cx} {Tb : List (Addr × Str)}
/-- the sort of the keys that were gathered -/
theorem srt_keys {ks : List D} {us : List Value} {s s0 : Shared} {pins : List (Addr × Obj)} {σ : L2.St} {H : Hp} {Q : VK} {h1 : Heap} {tk : Nat} (Iv : Inv X pins σ H s0) (hs : s = { s0 with heap := h1.push (seqObj "list" us.toArray 0), toks := tk }) (kp : ∀ b o, s0.heap.get? b = some o → h1.get? b = some o) (hu : X.A.units + 64 < cLine) (hge : s0.heap.objs.size ≤ h1.objs.size)
    (ea : EachIs (fun u d => ∃ x, RelV x u ∧ KeyV H x d) us ks) (hal : AllAlike (ks.map pk)) (hso : PySem.W.Sortable (ks.map pk)) (hdp : ∀ d ∈ ks, (pk d).depth ≤ 40) (hz : ks.length ≤ sizeLine) (q : ∀ ys p, EachIs (KeyV H) ys (srt pk ks) → H p = none → Q (.ref p) (upd H p (.lst ys))) :
    wpAny (model X.prog X.w) X.A.in1 (call (.builtin "list.sort") [.ref h1.objs.size]) (fun _ s2 => EP X pins σ Q (.ref h1.objs.size) s2) X.xe s := by
  subst hs
  have hp : (h1.push (seqObj "list" us.toArray 0)).get? h1.objs.size = some (seqObj "list" us.toArray 0) := Heap.get?_push_size _ rfl
  have kp2 : ∀ b o, s0.heap.get? b = some o → (h1.push (seqObj "list" us.toArray 0)).get? b = some o := fun b o e => Heap.get?_push_of_some _ (kp b o e)
  have ne : ∀ b o, s0.heap.get? b = some o → b ≠ h1.objs.size := fun b o e => Nat.ne_of_lt (Heap.lt_size (kp b o e))
  have rd : ∀ u d, (∃ x, RelV x u ∧ KeyV H x d) → ∃ as, Reads (h1.push (seqObj "list" us.toArray 0)) u (pk d) as ∧ h1.objs.size ∉ as := by
    rintro u d ⟨x, r, kv⟩
    obtain ⟨as, rr⟩ := Dp.reads Iv (pk d) x u kv.dp r
    exact ⟨as, PyProof.Rows.Reads.keeps kp2 rr, fun c => by
      obtain ⟨o, ho⟩ := PyProof.On.reads_mem_get rr _ c
      exact ne _ _ ho rfl⟩
  have er : EachIs (fun u d => ∃ as, Reads (h1.push (seqObj "list" us.toArray 0)) u (pk d) as ∧ h1.objs.size ∉ as) us ks := ea.mono rd
  refine list_sort_data (R := fun u d => ∃ x, RelV x u ∧ KeyV H x d) hp ea er hal hso hz (fun d hd => ?_) fun out hlen eo => ?_
  · have := hdp d hd
    show X.A.in1.units + 1 + _ < cLine
    have : X.A.in1.units = X.A.units + 1 := rfl
    omega
  · obtain ⟨ys, ry, ey⟩ := each_abs eo
    obtain ⟨c, hc⟩ := sortedHeap_at (vs := us) (out := List.toArray out) hp
    have yl : ys.length ≤ sizeLine := by rw [ry.length, hlen]; exact hz
    exact ⟨.ref _, upd H h1.objs.size (.lst ys), Iv.laid (fun b o e => by rw [sortedHeap_old (ne b o e) (Heap.lt_size (kp2 b o e))]; exact kp2 b o e) hge ⟨yl, out, c, ry, hc⟩, rfl, q _ _ ey (Iv.hok.fresh hge)⟩

/-- the keys of a dict are gathered; the heap has grown -/
theorem gather {prog : Program} {w : World} {A : Around} {E : Value → Shared → Prop} {s : Shared} {T : String} {r d : Addr} {n : Nat} {P : Nat → Value → Prop} {OK : Heap → Prop} {R : List Value → Shared → Prop} (K : KdlSrc prog w T r d n P OK) (hh : A.handled = none) (hok : OK s.heap) (hn : n ≤ sizeLine)
    (h : ∀ (h2 : Heap) (tk : Nat) (us : Array Value), (∀ b o, s.heap.get? b = some o → h2.get? b = some o) → s.heap.objs.size ≤ h2.objs.size → ItemsOf P us n → R us.toList { s with heap := h2, toks := tk }) : wpAny (model prog w) A (collect (.ref r)) R E s := by
  have there := K.there _ hok
  have top : (s.heap.push { cls := .type "list", data := .seq ([] : List Value).toArray }).get? s.heap.objs.size = some { cls := .type "list", data := .seq #[] } := Heap.get?_push_size _ rfl
  have old : ∀ b o, s.heap.get? b = some o → (s.heap.push { cls := .type "list", data := .seq ([] : List Value).toArray }).get? b = some o := fun b o e => Heap.get?_push_of_some _ e
  let W : Result → Shared → Prop := fun q s2 => ∃ (h2 : Heap) (tk : Nat) (us : Array Value) (c : Nat), q = .ok (.ret (.ref s.heap.objs.size)) ∧ s2 = { s with heap := h2, toks := tk } ∧ (∀ b o, s.heap.get? b = some o → h2.get? b = some o) ∧
    h2.get? s.heap.objs.size = some { cls := .type "list", dict := none, data := .seq us c, slots := #[] } ∧ ItemsOf P us n
  have fin : ∀ {q : Result} {s2 : Shared} {f : PySem.Flow}, W q s2 → q = .ok f → ∃ (h2 : Heap) (tk : Nat) (us : Array Value) (c : Nat), f = .ret (.ref s.heap.objs.size) ∧ s2 = { s with heap := h2, toks := tk } ∧ h2.get? s.heap.objs.size = some { cls := .type "list", dict := none, data := .seq us c, slots := #[] } ∧ R us.toList s2 := by
    rintro q s2 f ⟨h2, tk, us, c, rfl, rfl, kp, at2, it⟩ e
    cases e
    exact ⟨h2, tk, us, c, rfl, rfl, at2, h h2 tk us kp (Nat.le_of_lt (Heap.lt_size at2)) it⟩
  have loop := kdl_extend (A := A) (s := { s with heap := s.heap.push { cls := .type "list", data := .seq ([] : List Value).toArray } }) (R := W) K hh (K.keep _ _ hok fun b _ o e => old b o e) s.heap.objs.size (Nat.ne_of_gt there.1) (Nat.ne_of_gt there.2) (.ref s.heap.objs.size) 0 top
    (fun h2 tk us c kp at2 it => ⟨h2, tk, us, c, rfl, rfl, fun b o e => kp b o (Nat.ne_of_lt (Heap.lt_size e)) (old b o e), at2, it⟩) hn
  unfold collect
  apply wpAny_bind
  apply wpAny_runValue
  apply codeAny_builtin entry_proto_collect'
  rw [Around.under_plainId PySem.F.plain_proto_collect]
  show wpAny _ A.in1 (newList [] >>= fun l => again (.builtin "list.__iadd__" ⟨[l, .ref r], []⟩)) _ _ s
  apply wpAny_bind
  refine wpAny_newObj_type (wpAny_pure ⟨plainId_quiet PySem.F.plain_list_iadd _, ?_⟩)
  apply codeAny_builtin entry_list_iadd'
  rw [Around.under_plainId PySem.F.plain_list_iadd]
  show wpAny _ A.in1 (Builtin.List.listExtendWith (.ref s.heap.objs.size) (.ref r) (.ref s.heap.objs.size)) _ _ _
  refine wpAny_mono loop (fun g s2 x => ?_) fun e s2 x => ?_
  · cases g with
    | done f =>
      obtain ⟨h2, tk, us, c, rfl, rfl, at2, q⟩ := fin x rfl
      show wpAny _ A (load s.heap.objs.size >>= _) _ _ _
      exact wpAny_bind (wpAny_load at2 (wpAny_pure q))
    | again g =>
      refine ⟨x.1, codeAny_mono x.2 fun q s3 y => ?_⟩
      cases q with
      | error e =>
        obtain ⟨_, _, _, _, e, _⟩ := y
        cases e
      | ok f =>
        obtain ⟨h2, tk, us, c, rfl, rfl, at2, q⟩ := fin y rfl
        show wpAny _ A (load s.heap.objs.size >>= _) _ _ _
        exact wpAny_bind (wpAny_load at2 (wpAny_pure q))
  · obtain ⟨_, _, _, _, e, _⟩ := x
    cases e
theorem call_srtD (hc : X.calm = true) (hu : X.A.units + 64 < cLine) : CallR X (.builtin "sorted") (rSrtD X.K) := by
  intro pn st sg Hh args raws Qq Iv rr hyp
  obtain ⟨a, o, ks, rfl, src, hal, hso, hdp, hz, q⟩ := hyp
  rw [Vals.ref1 rr]
  have hh : X.A.handled = none := Iv.ok.hd hc
  have raw : (a == sysModules) = false ∧ ∃ (es : Array DictEntry) (ep : Nat), st.heap.DictRaw a es ep ∧ es.size = ks.length ∧ ∀ (i : Nat) (en : DictEntry) (d : D), es[i]? = some en → ks[i]? = some d → ∃ x, RelV x en.key ∧ KeyV Hh x d := by
    rcases src with ⟨kvs, e, rfl⟩ | ⟨kvs, e, rfl⟩
    · obtain ⟨h1, h2, h3, es, ep, vs, h4, h5, h6, h7⟩ := Iv.frzK e
      refine ⟨h1, es, ep, ⟨o, h2, h3, h4⟩, by rw [h5, List.length_map], fun i en d he hd => ?_⟩
      rw [List.getElem?_map] at hd
      cases hk : kvs[i]? with
      | none => rw [hk] at hd; cases hd
      | some kv =>
        rw [hk] at hd
        cases hd
        obtain ⟨es2, r1, r2, r3⟩ := Heap.DictAt.raw h7
        have r1' := r1
        obtain ⟨o2, g1, _, g3⟩ := r1'
        rw [h2] at g1
        cases g1
        rw [h4] at g3
        cases g3
        obtain ⟨u, hu1, hu2⟩ := kv_get h6 (show kvs[i]? = some (kv.1, kv.2) from hk)
        obtain ⟨hi, e2⟩ := Array.getElem?_eq_some_iff.mp he
        obtain ⟨m1, m2⟩ := r3 i hi kv.1 u hu1
        rw [e2] at m1
        exact ⟨_, relV_key m1, .k kv.1⟩
    · obtain ⟨h1, h2, h3, es, ep, h4, h5, h6⟩ := Iv.frzT e
      refine ⟨h1, es, ep, ⟨o, h2, h3, h4⟩, by rw [h5, List.length_map], fun i en d he hd => ?_⟩
      rw [List.getElem?_map] at hd
      cases hk : kvs[i]? with
      | none => rw [hk] at hd; cases hd
      | some kv =>
        rw [hk] at hd
        cases hd
        obtain ⟨en2, q2, g1, g2, g3⟩ := h6 i kv.1 kv.2 hk
        rw [he] at g1
        cases g1
        exact ⟨.ref q2, g2, .t kv.1 g3⟩
  obtain ⟨hs, es, ep, hr, hsz, hkey⟩ := raw
  apply PySem.Calls.call_function_entry kind_sorted plain_sorted entry_sorted (args_sorted1 _)
  unfold Builtin.«sorted»
  apply wpAny_bind (m := checkCount "sorted" 1 1 _)
  apply wpAny_pure
  apply wpAny_bind
  refine gather (A := X.A.in1) (KdlSrc.rawDict (es := es) (ep := ep) hs) hh hr (by omega) fun h2 tk us kp hge it => ?_
  have hl : us.toList.length = ks.length := by rw [Array.length_toList, it.1, hsz]
  have ea : EachIs (fun u d => ∃ x, RelV x u ∧ KeyV Hh x d) us.toList ks := by
    refine each_of_get hl fun i u d h1 h3 => ?_
    obtain ⟨hi, e⟩ := it.2 i u (by rw [← Array.getElem?_toList]; exact h1)
    refine hkey i es[i] d (Array.getElem?_eq_some_iff.mpr ⟨hi, rfl⟩) h3 |>.imp fun x hx => ?_
    rw [e]
    exact hx
  apply wpAny_bind
  refine wpAny_newList ?_ (by rw [hl]; exact hz)
  have fin := srt_keys (us := us.toList) (tk := tk) Iv rfl kp hu hge ea hal hso hdp hz q
  apply wpAny_bind
  apply wpAny_holding
  refine wpAny_mono fin (fun f s3 x => ?_) fun _ _ e => e
  exact wpAny_pure ⟨_, rfl, x⟩

end
namespace N
def sortedD (m : M D) : M (List D) := bnd m fun x z => match dkeys x with
  | some ks => if ks.length ≤ szl ∧ srtOk (ks.map pk) = true then some (srt pk ks, z) else none
  | none => none
/-- xs[::-1] -/
def rev (m : M D) : M (List D) := bnd m fun x z => match cont x z with
  | some (false, ds) => some (ds.reverse, z)
  | _ => none
end N
namespace I
/-- for k in d, the dict laid down -/
def seqK (a : M D) : M It := bnd a fun x z => match dkeys x with
  | some ks => some (⟨ks, none⟩, z)
  | none => none
end I
namespace E
/-- t[lo:hi], not the whole of it -/
def cutT (a : M D) (lo hi : Option (M D)) : M D := bnd a fun x => bnd (N.part lo) fun l => bnd (N.part hi) fun u z => match x with
  | .tup ds => if HT.sIx ds.length 0 l = 0 ∧ HT.sIx ds.length ds.length u = ds.length then none else some (.tup (N.cutL ds l u), z)
  | _ => none
end E
namespace O
/-- t + u, neither empty -/
def catT : D → D → Z → Option D
  | .tup ds, .tup es, _ => if ds ≠ [] ∧ es ≠ [] ∧ ds.length + es.length < szl then some (.tup (ds ++ es)) else none
  | _, _, _ => none
end O
theorem rp_key {K : Kx} {F : Hp} {rho : List Addr} (k : Key) : Rp K F rho (dkey k) (kV k) := by
  cases k with
  | inl i => exact .int i
  | inr s => exact .str s
theorem rps_keys {K : Kx} {F : Hp} {rho : List Addr} : ∀ (ks : List Key), Rps K F rho (ks.map dkey) (ks.map kV)
  | [] => .nil
  | k :: ks => .cons (rp_key k) (rps_keys ks)
theorem rk_keys {K : Kx} {F : Hp} {rho : List Addr} {κ : Type} {kvs : List (κ × D)} {es : List (κ × V)} (h : es.map Prod.fst = kvs.map Prod.fst) (f : κ → D) : (kvs.map fun e => f e.1) = es.map fun e => f e.1 := by
  have e1 : (kvs.map fun e => f e.1) = (kvs.map Prod.fst).map f := by rw [List.map_map]; rfl
  have e2 : (es.map fun e => f e.1) = (es.map Prod.fst).map f := by rw [List.map_map]; rfl
  rw [e1, e2, h]
/-- keys that were gathered are known from now on -/
theorem lay_keys {K : Kx} {B : Bs} {rho : List Addr} {om : Nat → Option Addr} {z : Z} {σ : L2.St} {H : Hp} : ∀ {ys : List V} {ds : List D} {F : Hp}, Rl K B F rho om z σ H → EachIs (KeyV H) ys ds → ∃ F', Rl K B F' rho om z σ H ∧ Same F F' ∧ Rps K F' rho ds ys
  | [], [], F, R, .nil => ⟨F, R, Same.refl _, .nil⟩
  | v :: ys, d :: ds, F, R, .cons h t => by
    cases h with
    | k k =>
      obtain ⟨F', R', s, r⟩ := lay_keys R t
      exact ⟨F', R', s, .cons (rp_key k) r⟩
    | t ks hq =>
      obtain ⟨F1, R1, s1, q1, _⟩ := R.layT hq
      obtain ⟨F', R', s, r⟩ := lay_keys R1 t
      exact ⟨F', R', s1.trans s, .cons (.tup (s _ _ q1) (rps_keys ks)) r⟩
theorem KeyV.upd {H : Hp} {p : Addr} {o : HO} (hp : H p = none) {v : V} {d : D} (h : KeyV H v d) : KeyV (upd H p o) v d := by
  cases h with
  | k k => exact .k k
  | t ks hq => exact .t ks (by rw [upd_ne (ne_of_none hq hp)]; exact hq)
section
variable {X : Cx} {Tb : List (Addr × Str)}
theorem dkeys_ok {K : Kx} {F H : Hp} {rho : List Addr} {d : D} {v : V} {ks : List D} (s : Same F H) (r : Rp K F rho d v) (h : dkeys d = some ks) : ∃ (a : Addr) (o : Obj), v = .ref a ∧
    ((∃ kvs : List (Key × V), F a = some (.frz o (.dK kvs)) ∧ ks = kvs.map fun e => dkey e.1) ∨ ∃ kvs : List (List Key × V), F a = some (.frz o (.dT kvs)) ∧ ks = kvs.map fun e => .tup (e.1.map dkey)) := by
  cases r with
  | @dk a es kvs o h1 h2 h3 =>
    cases h
    exact ⟨a, o, rfl, .inl ⟨es, h1, rk_keys (K := K) (F := F) (rho := rho) h2 dkey⟩⟩
  | @dt a es kvs o h1 h2 h3 =>
    cases h
    exact ⟨a, o, rfl, .inr ⟨es, h1, rk_keys (K := K) (F := F) (rho := rho) h2 fun k => .tup (k.map dkey)⟩⟩
  | _ => cases h
theorem mf_sortedD {p pos : Pos} {e : Expr} {m : M D} (hc : X.calm = true) (hu : X.A.units + 64 < cLine) (hg : Gl X "sorted") (hm : X.mg "sorted" = none) (ha : PE X e (Te (kx X Tb) m)) (hv : bootBuiltins "sorted" = some (.builtin "sorted") := by decide +kernel)
    (he : starEach [e] X.env = (false, eval e X.env) :: starEach [] X.env := by rfl) (hpl : (backTo pos (starEach [] X.env)).any (·.1) = false := by rfl) : PE X (.Call (.Name "sorted" p) [e] [] pos) (Tf (kx X Tb) (N.sortedD m)) := by
  refine pe_imp (pe_callB (call_srtD hc hu) hg hm hv (pa_cons ha pa_nil he) (by decide) (by decide) he hpl) fun σ H Q ⟨B, F, rho, om, z, g⟩ => ?_
  refine (g.bnd.imp fun _ _ H1 _ _ v _ _ _ _ _ ⟨F2, rho2, z2, x, eg1, s1, p1, r1, g1⟩ => ?_).tx (R := rV (kx X Tb))
  obtain ⟨R, d, z4, e, k⟩ := g1
  dsimp only at e
  split at e
  · rename_i ks hk
    split at e
    · rename_i c
      cases e
      cases r1 with
      | own _ => cases hk
      | pure r1 =>
        obtain ⟨a, o, rfl, src⟩ := dkeys_ok R.rh.fro r1 hk
        obtain ⟨c1, c2⟩ := c
        unfold srtOk at c2
        rw [Bool.and_eq_true, Bool.and_eq_true] at c2
        refine ⟨a, o, ks, rfl, ?_, alikeB_ok c2.1.1, sortB_ok c2.1.2, fun d hd => of_decide_eq_true (List.all_eq_true.mp c2.2 _ (List.mem_map_of_mem hd)), Nat.le_trans c1 szl_line, fun ys l ey hl => ?_⟩
        · rcases src with ⟨kvs, h1, h2⟩ | ⟨kvs, h1, h2⟩
          · exact .inl ⟨kvs, R.rh.fro _ _ h1, h2⟩
          · exact .inr ⟨kvs, R.rh.fro _ _ h1, h2⟩
        · obtain ⟨F3, R3, s3, q3⟩ := lay_keys R ey
          obtain ⟨R4, f4⟩ := R3.new (o := .lst ys) hl
          exact k F3 rho2 _ _ s3 (List.prefix_refl _) R4 ⟨l, ys, rfl, upd_same, f4, q3⟩
    · cases e
  · cases e
theorem mi_seqK {tg l : Expr} {m : M D} (hl : PE X l (Te (kx X Tb) m)) : PI X tg l (Ti (kx X Tb) (I.seqK m)) := by
  refine pi_imp (pi_keys hl) fun σ H R ⟨B, F, rho, om, z, Rr, it, z', e, k⟩ => ?_
  obtain ⟨x, z1, e1, e2⟩ := bnd_some e
  refine ⟨B, F, rho, om, z, Rr, x, z1, e1, fun F1 rho1 H1 v s1 p1 R1 r1 => ?_⟩
  try dsimp only at e2
  split at e2
  · rename_i ks hk
    cases e2
    cases r1 with
    | own _ => cases hk
    | pure r1 =>
      obtain ⟨a, o, rfl, src⟩ := dkeys_ok R1.rh.fro r1 hk
      rcases src with ⟨kvs, h1, rfl⟩ | ⟨kvs, h1, rfl⟩
      · refine ⟨a, o, rfl, .inl ⟨kvs, R1.rh.fro _ _ h1, k F1 rho1 H1 _ s1 p1 R1 ?_⟩⟩
        intro B2 F2 rho2 om2 z2 σ2 H2 s p R2 _ _
        have at2 : H2 a = some (.frz o (.dK kvs)) := R2.rh.fro _ _ (s _ _ h1)
        refine ⟨fun i hi => ⟨at2, by simpa using hi⟩, fun i d hd => ?_⟩
        have hi : i < kvs.length := by
          have := (List.getElem?_eq_some_iff.mp hd).1
          simpa using this
        refine ⟨⟨at2, hi⟩, fun x H3 ⟨e, kk, v, h2, h3⟩ => ⟨e, F2, Same.refl _, fun _ _ _ _ n => n, R2, ?_⟩⟩
        have hd : (kvs.map fun e => dkey e.1)[i]? = some d := hd
        rw [List.getElem?_map, h2] at hd
        cases hd
        rw [h3]
        exact rp_key kk
      · refine ⟨a, o, rfl, .inr ⟨kvs, R1.rh.fro _ _ h1, k F1 rho1 H1 _ s1 p1 R1 ?_⟩⟩
        intro B2 F2 rho2 om2 z2 σ2 H2 s p R2 _ _
        have at2 : H2 a = some (.frz o (.dT kvs)) := R2.rh.fro _ _ (s _ _ h1)
        refine ⟨fun i hi => ⟨at2, by simpa using hi⟩, fun i d hd => ?_⟩
        have hi : i < kvs.length := by
          have := (List.getElem?_eq_some_iff.mp hd).1
          simpa using this
        refine ⟨⟨at2, hi⟩, fun x H3 ⟨e, kk, v, q, h2, h3, h4⟩ => ⟨e, ?_⟩⟩
        have hd : (kvs.map fun e => D.tup (e.1.map dkey))[i]? = some d := hd
        rw [List.getElem?_map, h2] at hd
        cases hd
        rw [h3]
        obtain ⟨F3, R3, s3, q3, n3⟩ := R2.layT h4
        exact ⟨F3, s3, n3, R3, .tup q3 (rps_keys kk)⟩
  · cases e2
theorem seqK_noOwn {m : M D} : noOwn (I.seqK m) := by
  intro z it z' j h
  obtain ⟨x, z1, e1, e2⟩ := bnd_some h
  intro q
  try dsimp only at e2
  split at e2
  · cases e2; cases q
  · cases e2
/-! ### xs[::-1] -/
theorem vals_app {xs ys : List V} {us ws : List Value} (h : Vals xs us) (g : Vals ys ws) : Vals (xs ++ ys) (us ++ ws) := by
  induction h with
  | nil => exact g
  | cons a t ih => exact .cons a ih
theorem vals_rev' {xs : List V} {us : List Value} (h : Vals xs us) : Vals xs.reverse us.reverse := by
  induction h with
  | nil => exact .nil
  | cons a t ih =>
    rw [List.reverse_cons, List.reverse_cons]
    exact vals_app ih (.cons a .nil)
theorem pe_rev {e : Expr} {te : TE} {p1 p2 p3 pos : Pos} {j} (he : PE X e te) : PE X (.Subscript e (.Slice none none (some (.UnaryOp .USub (.Constant (.int 1) j p1) p3)) p2) pos) fun σ H Q => te σ H fun x H1 => ∃ a xs, x = .ref a ∧ SqL X.K H1 a xs ∧ ∀ p, H1 p = none → Q (.ref p) (upd H1 p (.lst xs.reverse)) := by
  have hst : PE X (.UnaryOp .USub (.Constant (.int 1) j p1) p3) fun _ H Q => Q (.int (-1)) H := pe_imp (pe_un un_neg pe_int) fun σ H Q q => ⟨1, rfl, q⟩
  refine ⟨fun pins s σ H Q I h => ?_⟩
  refine Subscript_ (thn (he.run pins s σ H _ I h) fun v s1 ⟨x, H1, I1, r1, a, xs, ex, hx, q⟩ => ?_)
  subst ex
  have r1 : v = Value.ref a := r1
  rw [r1]
  apply wpAny_Slice
  rw [evalPart_none]
  apply wpAny_pure
  apply wpAny_pure
  rw [evalPart_some]
  refine thn (hst.run pins s1 σ H1 (fun w H2 => w = .int (-1) ∧ H2 = H1) I1 ⟨rfl, rfl⟩) fun u s3 ⟨w, H3, I3, rw3, e1, e2⟩ => ?_
  subst e1 e2
  obtain ⟨t, rfl⟩ := rw3
  have I4 : Inv X pins σ H3 { s3 with heap := s3.heap.push { cls := .type "slice", data := .fields #[.none, .none, .int (-1) t] } } := I3.kept (t' := s3.toks) fun b ob q => Heap.get?_push_of_some _ q
  obtain ⟨its, rv, p, hz0⟩ := I4.list hx
  have hz : its.length ≤ sizeLine := by rw [← rv.length]; exact hz0
  show wpAny (model X.prog X.w) X.A (subscriptTail e (.Slice none none (some (.UnaryOp .USub (.Constant (.int 1) j p1) p3)) p2) (.ref a) (.ref s3.heap.objs.size)) (EP X pins σ Q) X.xe { s3 with heap := s3.heap.push { cls := .type "slice", data := .fields #[.none, .none, .int (-1) t] } }
  refine tail_any (ops := [.ref a, .ref s3.heap.objs.size]) p.isList.typeIs list_getitem_lookup ?_ (by with_unfolding_all rfl)
  refine wpAny_getItem_list_slice (lo := none) (hi := none) (st := some (-1)) p.isList (Heap.IsSliceOf.new _ _ _ _) .none .none (.int (-1) t) (by decide) ?_ (by rw [List.size_toArray]; exact hz)
  rw [krv_pick]
  have hl : xs.reverse.length ≤ sizeLine := by rw [List.length_reverse, rv.length]; exact hz
  refine ⟨.ref _, _, I4.laid (o := .lst xs.reverse) (t' := s3.toks) (fun b ob q => Heap.get?_push_of_some _ q) (Nat.le_refl _) ⟨hl, its.reverse, 0, ?_, ?_⟩, rfl, q _ (I4.hok.fresh (Nat.le_refl _))⟩
  · exact vals_rev' rv
  · have e : (List.toArray its).toList.reverse = its.reverse := rfl
    rw [e]
    exact Heap.get?_push_size _ rfl
theorem mf_rev {e : Expr} {p1 p2 p3 pos : Pos} {j} {m : M D} (he : PE X e (Te (kx X Tb) m)) : PE X (.Subscript e (.Slice none none (some (.UnaryOp .USub (.Constant (.int 1) j p1) p3)) p2) pos) (Tf (kx X Tb) (N.rev m)) := by
  refine pe_imp (pe_rev he) fun σ H Q ⟨B, F, rho, om, z, g⟩ => ?_
  refine (g.bnd.imp fun _ _ H1 _ _ v _ _ _ _ _ ⟨F2, rho2, z2, x, eg1, s1, p1, r1, g1⟩ => ?_).tx (R := rV (kx X Tb))
  obtain ⟨R, d, z4, e, k⟩ := g1
  dsimp only at e
  split at e
  · rename_i ds hc
    cases e
    obtain ⟨a, xs, rfl, q, h⟩ := cont_ok R r1 hc
    rcases h with ⟨_, h⟩ | ⟨h8, _⟩
    · refine ⟨a, xs, rfl, h, fun p hp => ?_⟩
      obtain ⟨R2, f2⟩ := R.new (o := .lst xs.reverse) hp
      exact k F2 rho2 _ _ (Same.refl _) (List.prefix_refl _) R2 ⟨p, _, rfl, upd_same, f2, q.reverse⟩
    · cases h8
  · cases e
/-! ### t[lo:hi], t + u -/
theorem me_cutT {e : Expr} {lo hi : Option Expr} {p2 pos : Pos} {m : M D} {ml mh : Option (M D)} (he : PE X e (Te (kx X Tb) m)) (hl : PO X lo (To (kx X Tb) (N.part ml))) (hu : PO X hi (To (kx X Tb) (N.part mh))) : PE X (.Subscript e (.Slice lo hi none p2) pos) (Te (kx X Tb) (E.cutT m ml mh)) := by
  refine pe_imp (pe_slice sl_tup he hl hu) fun σ H Q ⟨B, F, rho, om, z, g⟩ => ?_
  refine (g.bnd.imp fun _ _ H1 _ _ v _ _ _ _ _ ⟨F2, rho2, z2, x, eg1, s1, p1, r1, g1⟩ => ?_).tx (R := rV (kx X Tb))
  refine (g1.bnd.imp fun _ _ H3 _ _ l _ _ _ _ _ ⟨F4, rho4, z4, l', eg2, s2, p2, r2, g2⟩ => ?_).tx (R := rO)
  refine (g2.bnd.imp fun _ _ H5 _ _ u _ _ _ _ _ ⟨F6, rho6, z6, u', eg3, s3, p3, r3, g3⟩ => ?_).tx (R := rO)
  have r2 : l = l' := r2
  have r3 : u = u' := r3
  subst r2 r3
  obtain ⟨R, d, z7, e, k⟩ := g3
  dsimp only at e
  split at e
  · rename_i ds
    split at e
    · cases e
    · rename_i hw
      cases e
      cases (r1.mono s2 p2).mono s3 p3 with
      | pure r =>
        cases r with
        | @tup a xs _ h q =>
          have hlen := q.length
          refine ⟨a, xs, rfl, SqT.of (R.rh.fro _ _ h), by rw [← hlen]; exact hw, fun p hp => ?_⟩
          obtain ⟨F7, R7, s7, q7⟩ := R.alloc (o := .tup (cutV xs l u)) hp
          exact k F7 rho6 _ _ s7 (List.prefix_refl _) R7 (.pure (.tup q7 ((cut_rps q l u).mono s7 (List.prefix_refl _))))
  · cases e
theorem o_catT : OpM X (binaryOp .Add) O.catT := by
  refine ⟨_, op_catT, ?_⟩
  intro Tb B F rho om z σ H x y xv yv d R rx ry e Q k
  unfold O.catT at e
  split at e
  · rename_i ds es
    split at e
    · rename_i c
      cases e
      cases rx with
      | pure rx =>
        cases rx with
        | @tup a xs _ h q =>
          cases ry with
          | pure ry =>
            cases ry with
            | @tup b ys _ h2 q2 =>
              have l1 := q.length
              have l2 := q2.length
              refine ⟨a, b, xs, ys, rfl, rfl, SqT.of (R.rh.fro _ _ h), SqT.of (R.rh.fro _ _ h2), ?_, ?_, fun e => ?_, fun _ p hp => ?_⟩
              · intro e
                subst e
                exact c.1 (List.length_eq_zero_iff.mp l1)
              · rw [← l1, ← l2]
                exact Nat.le_of_lt (szl_ok c.2.2)
              · subst e
                exact absurd (List.length_eq_zero_iff.mp l2) c.2.1
              · obtain ⟨F7, R7, s7, q7⟩ := R.alloc (o := .tup (xs ++ ys)) hp
                exact k F7 _ _ s7 R7 (.pure (.tup q7 ((q.append q2).mono s7 (List.prefix_refl _))))
    · cases e
  · cases e
end
end Mi

set_option Elab.async false
set_option linter.all false
set_option maxRecDepth 100000
/-! Mi, part M: working out dicts. -/
namespace Mi
open PySem PySem.Spec PyProof.Rows L2
section
variable {z z1 z2 z3 : Z} {a b c e : M D} {x y w d cc : D} {s s' : List Sl} {h h' : List D} {o : Option D}
theorem ev_dix (h1 : a z = some (x, z1)) (h2 : b z1 = some (y, z2)) (h3 : dcont x z2 = some cc) (h4 : dgetC cc y = some (some d)) : E.op O.dix a b z = some (d, z2) := ev_op h1 h2 (by unfold O.dix dget; rw [h3]; dsimp only; rw [h4])
theorem ev_din (h1 : a z = some (x, z1)) (h2 : b z1 = some (y, z2)) (h3 : dcont y z2 = some cc) (h4 : dgetC cc x = some o) : E.op O.din a b z = some (.bl o.isSome, z2) := ev_op h1 h2 (by unfold O.din dget; rw [h3]; dsimp only; rw [h4])
theorem ev_dnotIn (h1 : a z = some (x, z1)) (h2 : b z1 = some (y, z2)) (h3 : dcont y z2 = some cc) (h4 : dgetC cc x = some o) : E.op O.dnotIn a b z = some (.bl (!o.isSome), z2) := ev_op h1 h2 (by unfold O.dnotIn dget; rw [h3]; dsimp only; rw [h4])
theorem ev_get1 (h1 : a z = some (x, z1)) (h0 : (dcont x z1).isSome = true) (h2 : b z1 = some (y, z2)) (h3 : dcont x z2 = some cc) (h4 : dgetC cc y = some o) : E.get1 a b z = some (o.getD .non, z2) := by
  unfold E.get1
  rw [bnd_of h1]
  try dsimp only
  rw [if_pos h0, bnd_of h2]
  unfold dget
  rw [h3]
  dsimp only
  rw [h4]
theorem ev_get2 (h1 : a z = some (x, z1)) (h0 : (dcont x z1).isSome = true) (h2 : b z1 = some (y, z2)) (h5 : c z2 = some (w, z3)) (hw : isPure w = true) (h3 : dcont x z3 = some cc) (h4 : dgetC cc y = some o) : E.get2 a b c z = some (o.getD w, z3) := by
  unfold E.get2
  rw [bnd_of h1]
  try dsimp only
  rw [if_pos h0, bnd_of h2, bnd_of h5, if_pos hw]
  unfold dget
  rw [h3]
  dsimp only
  rw [h4]
theorem ev_shrN {m : M D} (h1 : m z = some (d, ⟨s, h⟩)) : E.shrN m z = some (.ref h.length, ⟨s, h ++ [d]⟩) := by
  unfold E.shrN
  rw [bnd_of h1]
theorem ev_frzD {m : M D} (h1 : m z = some (d, z1)) (h2 : C.isDict d = true) : E.frzD m z = some (d, z1) := by
  unfold E.frzD
  rw [bnd_of h1, if_pos h2]
  rfl
theorem ev_pairs0 : E.pairs [] z = some ([], z) := rfl
theorem ev_pairs {r : List (M D × M D)} {k : Key} {ps : List (Key × D)} (h1 : a z = some (x, z1)) (h2 : b z1 = some (y, z2)) (h3 : E.pairs r z2 = some (ps, z3)) (hk : keyD x = some k) (hp : isPure y = true) : E.pairs ((a, b) :: r) z = some ((k, y) :: ps, z3) := by
  show bnd a _ z = _
  rw [bnd_of h1, bnd_of h2, bnd_of h3, hk]
  dsimp only
  rw [if_pos hp]
  rfl
theorem ev_dispK {prs : List (M D × M D)} {ps : List (Key × D)} (h1 : E.pairs prs z = some (ps, z1)) : N.dispK prs z = some (.dk (mergeG [] ps), z1) := by
  unfold N.dispK
  rw [bnd_of h1]
  rfl
theorem ev_sortedD {ks : List D} (h1 : a z = some (x, z1)) (h2 : dkeys x = some ks) (h3 : ks.length ≤ szl) (h4 : srtOk (ks.map pk) = true) : N.sortedD a z = some (srt pk ks, z1) := by
  unfold N.sortedD
  rw [bnd_of h1, h2]
  dsimp only
  rw [if_pos ⟨h3, h4⟩]
theorem ev_rev {ds : List D} (h1 : a z = some (x, z1)) (h2 : cont x z1 = some (false, ds)) : N.rev a z = some (ds.reverse, z1) := by
  unfold N.rev
  rw [bnd_of h1, h2]
theorem ev_cutT {lo hi : Option (M D)} {l u : Option Int} {ds : List D} (h1 : a z = some (.tup ds, z1)) (h2 : N.part lo z1 = some (l, z2)) (h3 : N.part hi z2 = some (u, z3)) (h4 : ¬ (HT.sIx ds.length 0 l = 0 ∧ HT.sIx ds.length ds.length u = ds.length)) : E.cutT a lo hi z = some (.tup (N.cutL ds l u), z3) := by
  unfold E.cutT
  rw [bnd_of h1, bnd_of h2, bnd_of h3]
  dsimp only
  rw [if_neg h4]
theorem ev_catT {ds es : List D} (h1 : a z = some (.tup ds, z1)) (h2 : b z1 = some (.tup es, z2)) (h3 : ds ≠ []) (h4 : es ≠ []) (h5 : ds.length + es.length < szl) : E.op O.catT a b z = some (.tup (ds ++ es), z2) := ev_op h1 h2 (by unfold O.catT; exact if_pos ⟨h3, h4, h5⟩)
theorem ev_seqK {ks : List D} (h1 : a z = some (x, z1)) (h2 : dkeys x = some ks) : I.seqK a z = some (⟨ks, none⟩, z1) := by
  unfold I.seqK
  rw [bnd_of h1, h2]
theorem ev_seqR {n : Nat} {t : Bool} {xs : List D} (h1 : a z = some (.ref n, z1)) (h2 : cont (.ref n) z1 = some (t, xs)) : I.seq a z = some (⟨xs, some (.ref n)⟩, z1) := by
  unfold I.seq
  rw [bnd_of h1]
  dsimp only
  rw [h2]
theorem ev_seqCR {n : Nat} {t : Bool} {xs : List D} (h1 : a z = some (.ref n, z1)) (h2 : cont (.ref n) z1 = some (t, xs)) : I.seqC a z = some (⟨xs, some (.ref n)⟩, z1) := by
  unfold I.seqC
  rw [bnd_of h1]
  show (match cont (.ref n) z1 with | some (_, xs) => some ((⟨xs, some (.ref n)⟩ : It), z1) | none => none) = _
  rw [h2]
/-! leaves -/
theorem lf_dcont {r : Option D} (q : dcont x z = r) : dcont x z = r := q
theorem lf_dcS {r : Bool} (q : (dcont x z).isSome = r) : (dcont x z).isSome = r := q
theorem lf_dgetC {r : Option (Option D)} (q : dgetC x y = r) : dgetC x y = r := q
theorem lf_keyD {r : Option Key} (q : keyD x = r) : keyD x = r := q
theorem lf_isDict {r : Bool} (q : C.isDict x = r) : C.isDict x = r := q
theorem lf_dkeys {r : Option (List D)} (q : dkeys x = r) : dkeys x = r := q
/-! statements -/
theorem cs_dputO {n : Nat} {c' v : D} (h1 : e z = some (v, z1)) (h2 : a z1 = some (.own n, z2)) (h3 : b z2 = some (y, ⟨s, h⟩)) (h4 : s[n]? = some (.own cc)) (h5 : dputC cc y v = some c') (hp : isPure v = true) (hs : s.set n (.own c') = s') : C.dput a b e z = some (.nx, ⟨s', h⟩) := by
  subst hs
  unfold C.dput
  rw [bnd_of h1, bnd_of h2, bnd_of h3, if_pos hp]
  dsimp only
  rw [h4]
  dsimp only
  rw [h5]
theorem cs_dputR {n : Nat} {c' v : D} (h1 : e z = some (v, z1)) (h2 : a z1 = some (.ref n, z2)) (h3 : b z2 = some (y, ⟨s, h⟩)) (h4 : h[n]? = some cc) (h5 : dputC cc y v = some c') (hp : isPure v = true) : C.dput a b e z = some (.nx, ⟨s, h.set n c'⟩) := by
  unfold C.dput
  rw [bnd_of h1, bnd_of h2, bnd_of h3, if_pos hp]
  dsimp only
  rw [h4]
  dsimp only
  rw [h5]
theorem cs_ownD {n : Nat} {m : M D} (h1 : m z = some (d, ⟨s, h⟩)) (hl : n < s.length) (hs : s.set n (.own d) = s') : C.ownN n m z = some (.nx, ⟨s', h⟩) := by
  subst hs
  unfold C.ownN
  rw [bnd_of h1]
  exact if_pos hl
theorem cs_frzD {n : Nat} (h1 : s[n]? = some (.own d)) (h2 : C.isDict d = true) (hs : s.set n (.val d) = s') : C.frzD n ⟨s, h⟩ = some (.nx, ⟨s', h⟩) := by
  subst hs
  unfold C.frzD
  dsimp only
  rw [h1]
  dsimp only
  rw [if_pos h2]
theorem cs_retD {n : Nat} (h1 : e z = some (.own n, ⟨s, h⟩)) (h2 : s[n]? = some (.own d)) (h3 : C.isDict d = true) : C.retD e z = some (.rt d, ⟨s.set n .no, h⟩) := by
  unfold C.retD
  rw [bnd_of h1]
  dsimp only
  rw [h2]
  dsimp only
  rw [if_pos h3]
theorem cs_retR {n : Nat} (h1 : e z = some (.own n, ⟨s, h⟩)) (h2 : s[n]? = some (.own d)) : C.retR e z = some (.rt (.ref h.length), ⟨s.set n .no, h ++ [d]⟩) := by
  unfold C.retR
  rw [bnd_of h1]
  dsimp only
  rw [h2]
/-- a walk over a list that may change, but does not -/
theorem Dz.loopC {bb : C} {Φ : Fl → Z → Prop} {it : It} {g : G} (I : List D → Z → Prop) (hk : ∀ ds z, I ds z → it.ok z = true) (step : ∀ d ds z, I (d :: ds) z → ∃ z1, g.run d z = some z1 ∧ Dz bb z1 (turn (I ds) Φ)) (fin : ∀ z, I [] z → Φ .nx z) : ∀ (ds : List D) (z : Z), I ds z → Dz (C.loop it g bb ds) z Φ
  | [], z, hh => by
    refine ⟨.nx, z, ?_, fin z hh⟩
    show (if it.ok z = true then some (Fl.nx, z) else none) = _
    rw [if_pos (hk _ _ hh)]
  | d :: ds, z, hh => by
    obtain ⟨z1, e1, f, z2, e2, q⟩ := step d ds z hh
    cases f with
    | nx =>
      obtain ⟨f3, z3, e3, q3⟩ := Dz.loopC I hk step fin ds z2 q
      refine ⟨f3, z3, ?_, q3⟩
      unfold C.loop
      rw [if_pos (hk _ _ hh), e1]
      dsimp only
      rw [e2]
      exact e3
    | ct =>
      obtain ⟨f3, z3, e3, q3⟩ := Dz.loopC I hk step fin ds z2 q
      refine ⟨f3, z3, ?_, q3⟩
      unfold C.loop
      rw [if_pos (hk _ _ hh), e1]
      dsimp only
      rw [e2]
      exact e3
    | bk =>
      refine ⟨_, _, ?_, q⟩
      unfold C.loop
      rw [if_pos (hk _ _ hh), e1]
      dsimp only
      rw [e2]
    | rt d =>
      refine ⟨_, _, ?_, q⟩
      unfold C.loop
      rw [if_pos (hk _ _ hh), e1]
      dsimp only
      rw [e2]
theorem Dz.forC {bb : C} {Φ : Fl → Z → Prop} {mi : M It} {it : It} {g : G} (h1 : mi z = some (it, z1)) (I : List D → Z → Prop) (hk : ∀ ds z, I ds z → it.ok z = true) (h0 : I it.items z1) (step : ∀ d ds z, I (d :: ds) z → ∃ z1, g.run d z = some z1 ∧ Dz bb z1 (turn (I ds) Φ)) (fin : ∀ z, I [] z → Φ .nx z) : Dz (C.for_ mi g bb) z Φ := by
  obtain ⟨f, z2, e, q⟩ := Dz.loopC I hk step fin it.items z1 h0
  refine ⟨f, z2, ?_, q⟩
  unfold C.for_
  rw [bnd_of h1]
  exact e
theorem Dz.fnE {n k : Nat} {ds h : List D} {d : D} {h' : List D} {c : C} (hl : ds.length = k) (hb : Dz c ⟨slots n ds, h⟩ fun f z => match f with | .nx => d = .non ∧ z.h = h' | .rt x => x = d ∧ z.h = h' | _ => False) : Mi.fn n k c ds h = some (d, h') := by
  obtain ⟨x, h2, e, e1, e2⟩ := Dz.fn (n := n) (k := k) (R := fun x h2 => x = d ∧ h2 = h') hl (hb.imp fun f z q => by
    cases f with
    | nx => exact ⟨q.1.symm, q.2⟩
    | rt x => exact q
    | bk => exact q
    | ct => exact q)
  rw [e, e1, e2]
theorem eqP_str2 {x y : Str} {z : Z} : O.eqP (.str x) (.str y) z = some (decide (x = y)) := rfl
/-- equal data are equal -/
theorem eqP_self {x y : D} {p : PyData} (h1 : O.toP (O.snap x z) = some p) (h2 : O.toP (O.snap y z) = some p) (h3 : SeqAt.shaped p = true) : O.eqP x y z = some true := by
  have e : O.eqD x y z = some true := by
    unfold O.eqD
    rw [h1, h2]
    dsimp only
    have h4 : p.canLay0 = true := by
      unfold SeqAt.shaped at h3
      simp only [Bool.and_eq_true] at h3
      exact h3.1
    rw [if_pos ⟨h3, h3⟩, SeqAt.eqv_refl _ h4]
  unfold O.eqP
  split
  · rename_i a b
    have h1 : some (PyData.str a) = some p := h1
    have h2 : some (PyData.str b) = some p := h2
    rw [← h1] at h2
    cases h2
    simp
  · exact e

/-! [[] for _ in xs]: so many new lists of the shared heap -/
theorem loop_shr {it : It} (hk : it.chk = none) (v : Nat) (s : List Sl) (hs : s.set v .no = s) : ∀ (ds acc h : List D), N.loop it (G.nm v) [v] (Mi.ret true) (E.shr (N.disp [])) ds acc ⟨s, h⟩ = some (acc ++ (List.range ds.length).map (fun i => D.ref (h.length + i)), ⟨s, h ++ List.replicate ds.length (.lst [])⟩)
  | [], acc, h => by
    have ok : it.ok ⟨s, h⟩ = true := by unfold It.ok; rw [hk]
    rw [nl_nil ok]
    simp
  | d :: ds, acc, h => by
    have ok : it.ok ⟨s, h⟩ = true := by unfold It.ok; rw [hk]
    have ih := loop_shr hk v s hs ds (acc ++ [.ref h.length]) (h ++ [.lst []])
    have e := nl_t (tt := Mi.ret true) (te := E.shr (N.disp [])) (acc := acc) (ds := ds) (d := d) (g := G.nm v) (vs := [v]) (z1 := ⟨s.set v (.val d), h⟩) (z2 := ⟨s.set v (.val d), h⟩) (z3 := ⟨s.set v (.val d), h ++ [.lst []]⟩) (x := .ref h.length) ok rfl rfl (ev_shr (ev_disp ev_args0)) rfl rfl
    have ew : N.wipe (s.set v (.val d)) [v] = s := by
      show (s.set v (.val d)).set v .no = s
      rw [List.set_set, hs]
    rw [e]
    dsimp only
    rw [ew, ih]
    rw [List.length_cons, List.range_succ_eq_map, List.map_cons, List.map_map, List.append_assoc, List.append_assoc, List.length_append, List.length_singleton, List.replicate_succ]
    congr 3
    · simp only [List.singleton_append, Nat.add_zero]
      congr 1
      refine List.map_congr_left fun i _ => ?_
      show D.ref (h.length + 1 + i) = D.ref (h.length + (i + 1))
      congr 1
      omega
theorem comp_shr {mi : M It} {it : It} {v : Nat} {s : List Sl} {h : List D} {x0 : Sl} (h1 : mi ⟨s, h⟩ = some (it, ⟨s, h⟩)) (hk : it.chk = none) (hl : it.items.length ≤ szl) (hv : s[v]? = some x0) (ho : N.isOwn (some x0) = false) :
    N.comp mi (G.nm v) [v] (Mi.ret true) (E.shr (N.disp [])) ⟨s, h⟩ = some ((List.range it.items.length).map (fun i => D.ref (h.length + i)), ⟨s, h ++ List.replicate it.items.length (.lst [])⟩) := by
  have hvl := (List.getElem?_eq_some_iff.mp hv).1
  have e := ev_comp (g := G.nm v) (vs := [v]) (tt := Mi.ret true) (te := E.shr (N.disp [])) h1 hl (by show (!N.isOwn s[v]? && true) = true; rw [hv, ho]; rfl) (loop_shr hk v (s.set v .no) (by rw [List.set_set]) it.items [] h)
  rw [e]
  have er : N.rest s (s.set v .no) [v] = s := by
    show (match s[v]? with | some x => (s.set v .no).set v x | none => s.set v .no) = s
    rw [hv]
    dsimp only
    rw [List.set_set]
    refine List.ext_getElem? fun j => ?_
    by_cases c : v = j
    · subst c
      rw [List.getElem?_set_self hvl, hv]
    · rw [List.getElem?_set_ne c]
  rw [List.nil_append, er]
/-- a heap's part by a function -/
def tabH (n : Nat) (f : Nat → D) : List D := (List.range n).map f
theorem tabH_get {n i : Nat} {h : List D} {f : Nat → D} (hi : i < n) : (h ++ tabH n f)[h.length + i]? = some (f i) := by
  unfold tabH
  rw [List.getElem?_append_right (Nat.le_add_right _ _), Nat.add_sub_cancel_left, List.getElem?_map, List.getElem?_range hi]
  rfl
theorem tabH_set {n i : Nat} {h : List D} {f : Nat → D} {y : D} : (h ++ tabH n f).set (h.length + i) y = h ++ tabH n fun j => if j = i then y else f j := by
  rw [List.set_append_right _ _ (Nat.le_add_right _ _), Nat.add_sub_cancel_left]
  congr 1
  unfold tabH
  refine List.ext_getElem? fun j => ?_
  rw [List.getElem?_set, List.getElem?_map, List.getElem?_map, List.length_map, List.length_range]
  by_cases hj : j < n
  · rw [List.getElem?_range hj]
    by_cases c : i = j
    · subst c
      simp [hj]
    · rw [if_neg c]
      have : ¬ j = i := fun q => c q.symm
      simp [this]
  · rw [List.getElem?_eq_none (by simpa using hj)]
    by_cases c : i = j
    · subst c
      simp [hj]
    · rw [if_neg c]
      rfl
theorem tabH_congr {n : Nat} {f g : Nat → D} (h : ∀ j, j < n → f j = g j) : tabH n f = tabH n g := by
  unfold tabH
  exact List.map_congr_left fun j hj => h j (List.mem_range.mp hj)
theorem tabH_rep {n : Nat} : List.replicate n (D.lst []) = tabH n fun _ => .lst [] := by
  unfold tabH
  rw [List.map_const', List.length_range]

end
/-! data that can be compared by == -/
def Shd (d : D) (dep : Nat) : Prop := ∃ p, O.toP d = some p ∧ p.canLay0 = true ∧ p.depth ≤ dep
theorem Shd.mono {d : D} {a b : Nat} (h : Shd d a) (hab : a ≤ b) : Shd d b := by
  obtain ⟨p, h1, h2, h3⟩ := h
  exact ⟨p, h1, h2, Nat.le_trans h3 hab⟩
theorem Shd.int {i : Int} {n : Nat} : Shd (.int i) n := ⟨.int i, rfl, by simp [PyData.canLay0], by simp [PyData.depth]⟩
theorem Shd.bl {i : Bool} {n : Nat} : Shd (.bl i) n := ⟨.bool i, rfl, by simp [PyData.canLay0], by simp [PyData.depth]⟩
theorem Shd.non {n : Nat} : Shd .non n := ⟨.none, rfl, by simp [PyData.canLay0], by simp [PyData.depth]⟩
def ShdAll (ds : List D) (dep : Nat) : Prop := ∃ ps, O.toPs ds = some ps ∧ PyData.canLayAll0 ps = true ∧ PyData.depthAll ps ≤ dep
theorem ShdAll.of {dep : Nat} : ∀ {ds : List D}, (∀ d ∈ ds, Shd d dep) → ShdAll ds dep
  | [], _ => ⟨[], rfl, by simp [PyData.canLayAll0], by simp [PyData.depthAll]⟩
  | d :: ds, h => by
    obtain ⟨p, h1, h2, h3⟩ := h d List.mem_cons_self
    obtain ⟨ps, g1, g2, g3⟩ := ShdAll.of (ds := ds) fun x hx => h x (List.mem_cons_of_mem _ hx)
    refine ⟨p :: ps, by rw [O.toPs, h1, g1], by simp [PyData.canLayAll0, h2, g2], ?_⟩
    simp only [PyData.depthAll]
    omega
theorem Shd.lst {ds : List D} {dep : Nat} (h : ∀ d ∈ ds, Shd d dep) : Shd (.lst ds) (dep + 1) := by
  obtain ⟨ps, g1, g2, g3⟩ := ShdAll.of h
  refine ⟨.list ps, by rw [O.toP, g1]; rfl, by simpa [PyData.canLay0] using g2, ?_⟩
  simp only [PyData.depth]
  omega
theorem Shd.tup {ds : List D} {dep : Nat} (h : ∀ d ∈ ds, Shd d dep) : Shd (.tup ds) (dep + 1) := by
  obtain ⟨ps, g1, g2, g3⟩ := ShdAll.of h
  refine ⟨.tuple ps, by rw [O.toP, g1]; rfl, by simpa [PyData.canLay0] using g2, ?_⟩
  simp only [PyData.depth]
  omega
/-- x == x -/
theorem Shd.eqP {x y d : D} {z : Z} (h : Shd d 64) (hx : O.snap x z = d) (hy : O.snap y z = d) : O.eqP x y z = some true := by
  obtain ⟨p, h1, h2, h3⟩ := h
  exact eqP_self (p := p) (by rw [hx, h1]) (by rw [hy, h1]) (by unfold SeqAt.shaped; rw [h2, decide_eq_true h3]; rfl)
/-! sorted lists of ints -/
theorem srtOk_ints (ns : List Int) : srtOk ((ns.map D.int).map pk) = true := by
  have e : ∀ p ∈ (ns.map D.int).map pk, ∃ i, p = PyData.int i := fun p hp => by
    obtain ⟨d, hd, rfl⟩ := List.mem_map.mp hp
    obtain ⟨i, _, rfl⟩ := List.mem_map.mp hd
    exact ⟨i, rfl⟩
  unfold srtOk alikeB sortB
  rw [Bool.and_eq_true, Bool.and_eq_true]
  refine ⟨⟨List.all_eq_true.mpr fun p hp => List.all_eq_true.mpr fun q hq => ?_, ?_⟩, List.all_eq_true.mpr fun p hp => ?_⟩
  · obtain ⟨i, rfl⟩ := e p hp
    obtain ⟨j, rfl⟩ := e q hq
    simp [PySem.W.alike]
  · rw [Bool.or_eq_true]
    refine .inr (List.all_eq_true.mpr fun p hp => ?_)
    obtain ⟨i, rfl⟩ := e p hp
    rfl
  · obtain ⟨i, rfl⟩ := e p hp
    simp [PyData.depth]
theorem srt_mem {k : D → PyData} {ds : List D} {d : D} : d ∈ srt k ds ↔ d ∈ ds := List.mem_mergeSort
theorem srt_len {k : D → PyData} {ds : List D} : (srt k ds).length = ds.length := List.length_mergeSort _
section
end
end Mi

set_option Elab.async false
set_option linter.all false
set_option maxRecDepth 100000
/-! Mi, part N: more rules for walking. -/
namespace Mi
open PySem L2
section
variable {x y d : D} {z z1 z2 z3 : Z} {s s' s2 : List Sl} {h h2 : List D}
/-- a list made of a list, nothing else changed -/
theorem ev_compP {mi : M It} {xs : List D} {g : G} {vs : List Nat} {tt : M Bool} {te : M D} (fl : D → Bool) (fe : D → D) (h1 : mi z = some (⟨xs, none⟩, ⟨s, h⟩)) (hl : xs.length ≤ szl) (ho : (vs.all fun v => !N.isOwn s[v]?) = true) (hw : N.wipe s vs = s')
    (step : ∀ d ∈ xs, ∃ z1 z2 z3, g.run d ⟨s', h⟩ = some z1 ∧ tt z1 = some (fl d, z2) ∧ (fl d = true → te z2 = some (fe d, z3) ∧ isPure (fe d) = true) ∧ (fl d = true → (⟨N.wipe z3.s vs, z3.h⟩ : Z) = ⟨s', h⟩) ∧ (fl d = false → (⟨N.wipe z2.s vs, z2.h⟩ : Z) = ⟨s', h⟩)) (hr : N.rest s s' vs = s2) : N.comp mi g vs tt te z = some ((xs.filter fl).map fe, ⟨s2, h⟩) := by
  have e := comp_loop (it := ⟨xs, none⟩) rfl fl fe ⟨s', h⟩ step xs [] fun d h => h
  rw [List.nil_append] at e
  exact ev_compN h1 hl ho hw e hr
/-- .. where each item is drawn, say: the state goes on -/
theorem ev_compS {mi : M It} {xs : List D} {g : G} {vs : List Nat} {te : M D} (P : List D → List D → Z → Prop) (h1 : mi z = some (⟨xs, none⟩, ⟨s, h⟩)) (hl : xs.length ≤ szl) (ho : (vs.all fun v => !N.isOwn s[v]?) = true) (hw : N.wipe s vs = s') (h0 : P xs [] ⟨s', h⟩)
    (step : ∀ d ds acc z, P (d :: ds) acc z → ∃ z1 x z3, g.run d z = some z1 ∧ te z1 = some (x, z3) ∧ isPure x = true ∧ P ds (acc ++ [x]) ⟨N.wipe z3.s vs, z3.h⟩) : ∃ r z', P [] r z' ∧ N.comp mi g vs (Mi.ret true) te z = some (r, ⟨N.rest s z'.s vs, z'.h⟩) := by
  obtain ⟨r, z', e, p⟩ := comp_inv (it := ⟨xs, none⟩) (g := g) (vs := vs) (tt := Mi.ret true) (te := te) rfl P (fun d ds acc z hp => by
    obtain ⟨z1, x, z3, a, b, c, q⟩ := step d ds acc z hp
    exact ⟨z1, z1, a, .inr ⟨x, z3, rfl, b, c, q⟩⟩) xs [] _ h0
  exact ⟨r, z', p, ev_compN h1 hl ho hw e rfl⟩
section
variable {t u : M Bool} {q : Bool}
theorem tt_orT (h1 : t z = some (true, z1)) : T.or t u z = some (true, z1) := by unfold T.or; rw [bnd_of h1]; rfl
theorem tt_orF (h1 : t z = some (false, z1)) (h2 : u z1 = some (q, z2)) : T.or t u z = some (q, z2) := by unfold T.or; rw [bnd_of h1]; exact h2
theorem tt_andF (h1 : t z = some (false, z1)) : T.and t u z = some (false, z1) := by unfold T.and; rw [bnd_of h1]; rfl
theorem tt_andT (h1 : t z = some (true, z1)) (h2 : u z1 = some (q, z2)) : T.and t u z = some (q, z2) := by unfold T.and; rw [bnd_of h1]; exact h2
end
theorem at_lastN {xs : List D} {x : D} : atI (xs ++ [x]) (-1) = some x := by
  have e : ixN (xs ++ [x]).length (-1) = some xs.length := by
    unfold ixN
    rw [if_neg (by decide), List.length_append, List.length_singleton, if_pos (by omega)]
    congr 1
    omega
  unfold atI
  rw [e]
  show (xs ++ [x])[xs.length]? = _
  rw [List.getElem?_append_right (Nat.le_refl _), Nat.sub_self]
  rfl
theorem at_lastI {xs : List D} {x : D} {i : Int} (hi : i = (xs.length : Int)) : atI (xs ++ [x]) i = some x := by
  subst hi
  refine atI_nat ?_
  rw [List.getElem?_append_right (Nat.le_refl _), Nat.sub_self]
  rfl
theorem Rep.str {s : Str} {n : Nat} (h1 : (s.cps.toList.all fun c => decide (c < 16 ^ 8)) = true) (h2 : s.cps.size ≤ n) : Rep (.str s) 0 n :=
  ⟨.str s, rfl, by simp [PyData.showable], by simp [PyData.hasDict], by simp [PyData.depth], by rw [PyData.leavesShort]; exact h1, by simpa [PyData.weight] using h2⟩
theorem eqP_str {x : Str} {z : Z} : O.eqP (.str x) (.str x) z = some true := by
  show some (decide (x = x)) = some true
  simp
theorem Shd.str {s : Str} {n : Nat} (h : (PyData.str s).canLay0 = true) : Shd (.str s) n := ⟨.str s, rfl, h, by simp [PyData.depth]⟩
theorem Shd.nat {i : Nat} {n : Nat} : Shd (.int i) n := Shd.int
end
/-! ### a, b = x, y -/
def C.par2 (i j : Nat) (a b : M D) : C := bnd (E.args [a, b]) fun ds z => match ds with
  | [x, y] => some (.nx, ⟨(z.s.set i (.val x)).set j (.val y), z.h⟩)
  | _ => none
def C.par3 (i j l : Nat) (a b c : M D) : C := bnd (E.args [a, b, c]) fun ds z => match ds with
  | [x, y, w] => some (.nx, ⟨((z.s.set i (.val x)).set j (.val y)).set l (.val w), z.h⟩)
  | _ => none
section
variable {X : Cx} {Tb : List (Addr × Str)}
theorem ms_par2 {i j : Nat} {x y : Str} {a b : Expr} {ma mb : M D} {px py pt pos : Pos} {kt k2 pt2} (hc : X.calm = true) (hN : X.N.Nodup) (ha : PA X [a, b] (Ta (kx X Tb) (E.args [ma, mb])))
    (hw : swappedStores [.Tuple [.Name x px, .Name y py] kt pt] (.Tuple [a, b] k2 pt2) X.env = pure (some [x, y])) (hi : X.N[i]? = some x := by rfl) (hj : X.N[j]? = some y := by rfl) (hij : i ≠ j := by decide)
    (hx : X.env.scope.names.lookup x = some .local := by rfl) (hy : X.env.scope.names.lookup y = some .local := by rfl)
    (hs : swapsWithSole [.Tuple [.Name x px, .Name y py] kt pt] (.Tuple [a, b] k2 pt2) pos.line X.env = pure false := by rfl) :
    PS X (.Assign [.Tuple [.Name x px, .Name y py] kt pt] (.Tuple [a, b] k2 pt2) pos) (Ts (kx X Tb) (C.par2 i j ma mb)) := by
  refine ps_imp (ps_par hc hN hi hj hij hx hy ha hw hs) fun D σ H ⟨B, F, rho, om, z, R, f, z', e, k⟩ => ?_
  obtain ⟨ds, z1, e1, e2⟩ := bnd_some e
  refine ⟨B, F, rho, om, z, R, ds, z1, e1, fun F1 rho1 H1 vs s p R1 r1 => ?_⟩
  split at e2
  · cases e2
    cases r1 with
    | cons p1 q1 => cases q1 with
      | cons p2 q2 =>
        cases q2
        exact ⟨_, _, rfl, k F1 rho1 _ _ H1 s p ((R1.setVal i p1).setVal j p2)⟩
  · cases e2
theorem ms_par3 {i j l : Nat} {x y w : Str} {a b c : Expr} {ma mb mc : M D} {px py pw pt pos : Pos} {kt k2 pt2} (hc : X.calm = true) (hN : X.N.Nodup) (ha : PA X [a, b, c] (Ta (kx X Tb) (E.args [ma, mb, mc])))
    (hw : swappedStores [.Tuple [.Name x px, .Name y py, .Name w pw] kt pt] (.Tuple [a, b, c] k2 pt2) X.env = pure (some [x, y, w])) (hi : X.N[i]? = some x := by rfl) (hj : X.N[j]? = some y := by rfl) (hl : X.N[l]? = some w := by rfl) (hij : i ≠ j := by decide) (hil : i ≠ l := by decide) (hjl : j ≠ l := by decide)
    (hx : X.env.scope.names.lookup x = some .local := by rfl) (hy : X.env.scope.names.lookup y = some .local := by rfl) (hz : X.env.scope.names.lookup w = some .local := by rfl)
    (hs : swapsWithSole [.Tuple [.Name x px, .Name y py, .Name w pw] kt pt] (.Tuple [a, b, c] k2 pt2) pos.line X.env = pure false := by rfl) :
    PS X (.Assign [.Tuple [.Name x px, .Name y py, .Name w pw] kt pt] (.Tuple [a, b, c] k2 pt2) pos) (Ts (kx X Tb) (C.par3 i j l ma mb mc)) := by
  refine ps_imp (ps_par3 hc hN hi hj hl hij hil hjl hx hy hz ha hw hs) fun D σ H ⟨B, F, rho, om, z, R, f, z', e, k⟩ => ?_
  obtain ⟨ds, z1, e1, e2⟩ := bnd_some e
  refine ⟨B, F, rho, om, z, R, ds, z1, e1, fun F1 rho1 H1 vs s p R1 r1 => ?_⟩
  split at e2
  · cases e2
    cases r1 with
    | cons p1 q1 => cases q1 with
      | cons p2 q2 => cases q2 with
        | cons p3 q3 =>
          cases q3
          exact ⟨_, _, _, rfl, k F1 rho1 _ _ H1 s p (((R1.setVal i p1).setVal j p2).setVal l p3)⟩
  · cases e2
end
theorem cs_par2 {i j : Nat} {a b : M D} {x y : D} {z : Z} {s s' : List Sl} {h : List D} (h1 : E.args [a, b] z = some ([x, y], ⟨s, h⟩)) (hs : (s.set i (.val x)).set j (.val y) = s') : C.par2 i j a b z = some (.nx, ⟨s', h⟩) := by
  subst hs
  unfold C.par2
  rw [bnd_of h1]
theorem cs_par3 {i j l : Nat} {a b c : M D} {x y w : D} {z : Z} {s s' : List Sl} {h : List D} (h1 : E.args [a, b, c] z = some ([x, y, w], ⟨s, h⟩)) (hs : ((s.set i (.val x)).set j (.val y)).set l (.val w) = s') : C.par3 i j l a b c z = some (.nx, ⟨s', h⟩) := by
  subst hs
  unfold C.par3
  rw [bnd_of h1]
namespace Dr
/-- a draw: some number below -/
theorem drawX (s : DS) (tl : List D) {many : Nat} (h : 0 < many) (hb : many ≤ 1000000000) : ∃ (v : Nat) (s' : DS), v < many ∧ m_law_draw [.ref 1, .int many] (stT s tl) = some (.int v, stT s' tl) := by
  have a := drawV_nn s (many := (many : Int)) (by omega)
  have b := drawV_lt s (many := (many : Int)) (by omega)
  refine ⟨(drawV s many).toNat, drawS s many, by omega, ?_⟩
  rw [draw_evT tl s (many := (many : Int)) (m := 64) (by omega) (Smn.of (by omega)) (by decide)]
  have e : ((drawV s many).toNat : Int) = drawV s many := Int.toNat_of_nonneg a
  rw [e]
noncomputable section
@[reducible] def st_law_pick_1 : C := (C.ret (E.op O.ix (E.var 1) (E.call m_law_draw [(E.var 0), (E.blt F.len [(E.var 1)])])))
def b_law_pick : C := st_law_pick_1
def m_law_pick : Fn := fn 2 2 b_law_pick
end
theorem pickX (s : DS) (tl : List D) {xs : List D} (h : 0 < xs.length) (hb : xs.length ≤ 1000000000) (hp : ∀ x ∈ xs, isPure x = true) : ∃ (x : D) (s' : DS), x ∈ xs ∧ m_law_pick [.ref 1, .lst xs] (stT s tl) = some (x, stT s' tl) := by
  obtain ⟨v, s', hv, e⟩ := drawX s tl h hb
  obtain ⟨x, hx⟩ : ∃ x, xs[v]? = some x := ⟨_, List.getElem?_eq_getElem hv⟩
  have hm := List.mem_of_getElem? hx
  refine ⟨x, s', hm, ?_⟩
  unfold m_law_pick
  apply fn_rtH rfl
  unfold b_law_pick
  exact cs_ret (ev_ix (ev_var (n := 1) (d := .lst xs) rfl) (ev_call (ev_args (ev_var rfl) (ev_args (ev_blt1 (ev_var rfl) (lf_len rfl)) ev_args0 rfl) rfl) e) rfl (atI_nat hx)) (hp x hm)
noncomputable section
/-- .. the text that answers 0 where there is nothing to draw from -/
@[reducible] def st_law_draw_0 : C := (C.ite (T.val (E.op O.lt (E.var 1) (E.c (.int 1)))) (C.ret (E.c (.int 0))) C.skip)
def m_law_draw2 : Fn := fn 5 2 (C.seq st_law_draw_0 b_law_draw)
end
theorem drawX2 (s : DS) (tl : List D) {many : Nat} (h : 0 < many) (hb : many ≤ 1000000000) : ∃ (v : Nat) (s' : DS), v < many ∧ m_law_draw2 [.ref 1, .int many] (stT s tl) = some (.int v, stT s' tl) := by
  obtain ⟨v, s', hv, e⟩ := drawX s tl h hb
  refine ⟨v, s', hv, ?_⟩
  rw [← e]
  unfold m_law_draw2 m_law_draw fn
  have t : st_law_draw_0 ⟨slots 5 [.ref 1, .int many], stT s tl⟩ = some (.nx, ⟨slots 5 [.ref 1, .int many], stT s tl⟩) := by
    have e := tv (ev_lt (z := ⟨slots 5 [.ref 1, .int many], stT s tl⟩) (ev_var (n := 1) (d := .int many) rfl) (ev_c (d := .int 1)))
    rw [decide_eq_false (by omega)] at e
    exact cs_iteF e cs_skip
  have t2 : (C.seq st_law_draw_0 b_law_draw) ⟨slots 5 [.ref 1, .int many], stT s tl⟩ = b_law_draw ⟨slots 5 [.ref 1, .int many], stT s tl⟩ := cs_nx t rfl
  rw [t2]
end Dr
end Mi

set_option Elab.async false
set_option linter.all false
set_option maxRecDepth 100000
/-! Mi, part P: the least and the greatest of a row of numbers, list or tuple; comprehensions over three. -/
namespace Mi
open PySem PySem.W PySem.Spec PyProof.Rows L2
def F.rowI (x : D) (z : Z) : Option (List Int) := match cont x z with
  | some (_, ds) => F.ofInts ds
  | none => none
def F.minR : List D → Z → Option D
  | [x], z => match F.rowI x z with
    | some ns => (F.minL ns).map .int
    | none => none
  | _, _ => none
def F.maxR : List D → Z → Option D
  | [x], z => match F.rowI x z with
    | some ns => (F.maxL ns).map .int
    | none => none
  | _, _ => none
section
variable {X : Cx}
def RowI (K : PySem.W.Frag) (H : Hp) (a : Addr) (ns : List Int) : Prop := SqL K H a (ns.map V.int) ∨ SqT K H a (ns.map V.int)
theorem rowI_ok {K : Kx} {B : Bs} {F : Hp} {rho : List Addr} {om : Nat → Option Addr} {z : Z} {σ : L2.St} {H : Hp} {d : D} {v : V} {ns : List Int} (R : Rl K B F rho om z σ H) (r : Rv K F rho om d v) (h : Mi.F.rowI d z = some ns) : ∃ a, v = .ref a ∧ RowI K H a ns := by
  unfold Mi.F.rowI at h
  split at h
  · rename_i ds hc
    obtain ⟨a, xs, rfl, q, h9⟩ := cont_ok R r hc
    obtain rfl := ofInts_ok h q
    rcases h9 with ⟨_, h9⟩ | ⟨_, h9⟩
    · exact ⟨a, rfl, .inl h9⟩
    · exact ⟨a, rfl, .inr h9⟩
  · cases h
theorem reads_ints {h : Heap} : ∀ {ns : List Int} {us : List Value}, Vals (ns.map V.int) us → ReadsAll h us (ns.map PyData.int) []
  | [], us, r => by cases r; exact .nil
  | n :: ns, us, r => by
    cases r with
    | cons r1 r2 =>
      obtain ⟨t, rfl⟩ := r1
      exact .cons (as := []) (bs := []) (.int n t) (reads_ints r2)
theorem alike_row (ns : List Int) : AlikeAll (ns.map PyData.int) := by
  constructor
  · intro x hx y hy
    obtain ⟨i, _, rfl⟩ := List.mem_map.mp hx
    obtain ⟨j, _, rfl⟩ := List.mem_map.mp hy
    show PySem.W.alike (.int i) (.int j) = true
    simp only [PySem.W.alike]
  · intro x hx
    obtain ⟨i, _, rfl⟩ := List.mem_map.mp hx
    exact fun c => nomatch c
theorem depth_row : ∀ ns : List Int, PyData.depthAll (ns.map PyData.int) = 0
  | [] => by simp [PyData.depthAll]
  | n :: ns => by simp [PyData.depthAll, PyData.depth, depth_row ns]
theorem fold_min (n : Int) (ns : List Int) : ns.foldl min n = ns.foldl (fun a b => if b < a then b else a) n := by
  congr 1
  funext a b
  split <;> omega
theorem fold_max (n : Int) (ns : List Int) : ns.foldl max n = ns.foldl (fun a b => if a < b then b else a) n := by
  congr 1
  funext a b
  split <;> omega
def rMinR (K : PySem.W.Frag) : List V → Hp → VK → Prop := fun vs H Q => ∃ (a : Addr) (n : Int) (ns : List Int), vs = [V.ref a] ∧ RowI K H a (n :: ns) ∧ Q (.int (ns.foldl (fun a b => if b < a then b else a) n)) H
def rMaxR (K : PySem.W.Frag) : List V → Hp → VK → Prop := fun vs H Q => ∃ (a : Addr) (n : Int) (ns : List Int), vs = [V.ref a] ∧ RowI K H a (n :: ns) ∧ Q (.int (ns.foldl (fun a b => if a < b then b else a) n)) H
theorem call_minR (hc : X.calm = true) (hu : X.A.units + 64 < cLine) : CallR X (.builtin "min") (rMinR X.K) := by
  intro pins s σ H vs us Q I r h
  obtain ⟨a, n, ns, rfl, hs, q⟩ := h
  rw [Vals.ref1 r]
  have hd : X.A.units + 1 + PyData.depthAll (PyData.int n :: ns.map PyData.int) < cLine := by
    have := depth_row (n :: ns)
    rw [List.map_cons] at this
    omega
  rcases hs with hs | hs
  · obtain ⟨its, rv, hl, _⟩ := I.list hs
    refine min_list_data (I.ok.hd hc) hl.isList (reads_ints (ns := n :: ns) rv) (alike_row (n :: ns)) hd fun i v h' tk bs _ rd hk => ?_
    rw [minD_ints, fold_min] at rd
    cases rd with
    | int i t => exact ⟨.int _, H, I.kept hk, ⟨_, rfl⟩, q⟩
  · obtain ⟨its, rv, hl, _⟩ := I.tuple hs
    refine min_tuple_data (I.ok.hd hc) hl (reads_ints (ns := n :: ns) rv) (alike_row (n :: ns)) hd fun i v h' tk bs _ rd hk => ?_
    rw [minD_ints, fold_min] at rd
    cases rd with
    | int i t => exact ⟨.int _, H, I.kept hk, ⟨_, rfl⟩, q⟩
theorem call_maxR (hc : X.calm = true) (hu : X.A.units + 64 < cLine) : CallR X (.builtin "max") (rMaxR X.K) := by
  intro pins s σ H vs us Q I r h
  obtain ⟨a, n, ns, rfl, hs, q⟩ := h
  rw [Vals.ref1 r]
  have hd : X.A.units + 1 + PyData.depthAll (PyData.int n :: ns.map PyData.int) < cLine := by
    have := depth_row (n :: ns)
    rw [List.map_cons] at this
    omega
  rcases hs with hs | hs
  · obtain ⟨its, rv, hl, _⟩ := I.list hs
    refine max_list_data (I.ok.hd hc) hl.isList (reads_ints (ns := n :: ns) rv) (alike_row (n :: ns)) hd fun i v h' tk bs _ rd hk => ?_
    rw [maxD_ints, fold_max] at rd
    cases rd with
    | int i t => exact ⟨.int _, H, I.kept hk, ⟨_, rfl⟩, q⟩
  · obtain ⟨its, rv, hl, _⟩ := I.tuple hs
    refine max_tuple_data (I.ok.hd hc) hl (reads_ints (ns := n :: ns) rv) (alike_row (n :: ns)) hd fun i v h' tk bs _ rd hk => ?_
    rw [maxD_ints, fold_max] at rd
    cases rd with
    | int i t => exact ⟨.int _, H, I.kept hk, ⟨_, rfl⟩, q⟩
theorem f_minR (hc : X.calm = true) (hu : X.A.units + 64 < cLine) : CallM X (.builtin "min") F.minR := by
  refine ⟨_, call_minR hc hu, ?_⟩
  intro Tb B F rho om z σ H xs vs d R r e Q k
  unfold Mi.F.minR at e
  split at e
  · obtain ⟨v, rfl, rv⟩ := rvs1 r
    rename_i x
    split at e
    · rename_i ns hl
      obtain ⟨a, rfl, h⟩ := rowI_ok R rv hl
      cases ns with
      | nil => cases e
      | cons n ns =>
        cases e
        exact ⟨a, n, ns, rfl, h, k F H _ (Same.refl F) R (.pure (.int _))⟩
    · cases e
  · cases e
theorem f_maxR (hc : X.calm = true) (hu : X.A.units + 64 < cLine) : CallM X (.builtin "max") F.maxR := by
  refine ⟨_, call_maxR hc hu, ?_⟩
  intro Tb B F rho om z σ H xs vs d R r e Q k
  unfold Mi.F.maxR at e
  split at e
  · obtain ⟨v, rfl, rv⟩ := rvs1 r
    rename_i x
    split at e
    · rename_i ns hl
      obtain ⟨a, rfl, h⟩ := rowI_ok R rv hl
      cases ns with
      | nil => cases e
      | cons n ns =>
        cases e
        exact ⟨a, n, ns, rfl, h, k F H _ (Same.refl F) R (.pure (.int _))⟩
    · cases e
  · cases e
end
/-! walking -/
section
variable {x y d : D} {z z1 z2 z3 : Z} {s s' s2 : List Sl} {h h0 h1 h2 : List D}
theorem lf_minR {t : Bool} {ds : List D} {n : Int} {ns : List Int} (hc : cont x z = some (t, ds)) (hn : F.ofInts ds = some (n :: ns)) : F.minR [x] z = some (.int (ns.foldl (fun a b => if b < a then b else a) n)) := by
  show (match F.rowI x z with | some ns => (F.minL ns).map D.int | none => none) = _
  unfold F.rowI
  rw [hc]
  dsimp only
  rw [hn]
  rfl
theorem lf_maxR {t : Bool} {ds : List D} {n : Int} {ns : List Int} (hc : cont x z = some (t, ds)) (hn : F.ofInts ds = some (n :: ns)) : F.maxR [x] z = some (.int (ns.foldl (fun a b => if a < b then b else a) n)) := by
  show (match F.rowI x z with | some ns => (F.maxL ns).map D.int | none => none) = _
  unfold F.rowI
  rw [hc]
  dsimp only
  rw [hn]
  rfl
/-- a list made of a list that is watched -/
theorem comp_loopK {it : It} {g : G} {vs : List Nat} {tt : M Bool} {te : M D} (fl : D → Bool) (fe : D → D) (w : Z) (ok : it.ok w = true) (step : ∀ d, d ∈ it.items → ∃ z1 z2 z3, g.run d w = some z1 ∧ tt z1 = some (fl d, z2) ∧ (fl d = true → te z2 = some (fe d, z3) ∧ isPure (fe d) = true) ∧ (fl d = true → (⟨N.wipe z3.s vs, z3.h⟩ : Z) = w) ∧ (fl d = false → (⟨N.wipe z2.s vs, z2.h⟩ : Z) = w)) :
    ∀ (ds : List D) (acc : List D), (∀ d ∈ ds, d ∈ it.items) → N.loop it g vs tt te ds acc w = some (acc ++ (ds.filter fl).map fe, w)
  | [], acc, _ => by
    unfold N.loop
    rw [if_pos ok]
    simp
  | d :: ds, acc, hm => by
    obtain ⟨z1, z2, z3, h1, h2, h3, h4, h5⟩ := step d (hm d List.mem_cons_self)
    have ih := fun acc => comp_loopK fl fe w ok step ds acc fun x hx => hm x (List.mem_cons_of_mem _ hx)
    unfold N.loop
    rw [if_pos ok, h1]
    dsimp only
    rw [h2]
    cases hf : fl d with
    | true =>
      obtain ⟨h6, h7⟩ := h3 hf
      dsimp only
      rw [h6]
      dsimp only
      rw [if_pos h7, h4 hf, ih]
      simp [List.filter_cons, hf]
    | false =>
      dsimp only
      rw [h5 hf, ih]
      simp [List.filter_cons, hf]
theorem ev_compO {mi : M It} {xs : List D} {o : D} {g : G} {vs : List Nat} {tt : M Bool} {te : M D} (fl : D → Bool) (fe : D → D) (e : mi z = some (⟨xs, some o⟩, ⟨s, h⟩)) (hl : xs.length ≤ szl) (ho : (vs.all fun v => !N.isOwn s[v]?) = true) (hw : N.wipe s vs = s') (ok : (⟨xs, some o⟩ : It).ok ⟨s', h⟩ = true)
    (step : ∀ d ∈ xs, ∃ z1 z2 z3, g.run d ⟨s', h⟩ = some z1 ∧ tt z1 = some (fl d, z2) ∧ (fl d = true → te z2 = some (fe d, z3) ∧ isPure (fe d) = true) ∧ (fl d = true → (⟨N.wipe z3.s vs, z3.h⟩ : Z) = ⟨s', h⟩) ∧ (fl d = false → (⟨N.wipe z2.s vs, z2.h⟩ : Z) = ⟨s', h⟩)) (hr : N.rest s s' vs = s2) : N.comp mi g vs tt te z = some ((xs.filter fl).map fe, ⟨s2, h⟩) := by
  have e2 := comp_loopK (it := ⟨xs, some o⟩) fl fe ⟨s', h⟩ ok step xs [] fun d h => h
  rw [List.nil_append] at e2
  exact ev_compN e hl ho hw e2 hr
/-- a list made of three items; the heap may go on -/
theorem ev_comp3 {mi : M It} {a0 a1 a2 y0 y1 y2 : D} {g : G} {vs : List Nat} {te : M D} {za zb zc : Z} {sa sb sc : List Sl} (e : mi z = some (⟨[a0, a1, a2], none⟩, ⟨s, h⟩)) (ho : (vs.all fun v => !N.isOwn s[v]?) = true) (hw : N.wipe s vs = s')
    (g0 : g.run a0 ⟨s', h⟩ = some za) (t0 : te za = some (y0, ⟨sa, h0⟩)) (w0 : N.wipe sa vs = s') (p0 : isPure y0 = true)
    (g1 : g.run a1 ⟨s', h0⟩ = some zb) (t1 : te zb = some (y1, ⟨sb, h1⟩)) (w1 : N.wipe sb vs = s') (p1 : isPure y1 = true)
    (g2 : g.run a2 ⟨s', h1⟩ = some zc) (t2 : te zc = some (y2, ⟨sc, h2⟩)) (w2 : N.wipe sc vs = s') (p2 : isPure y2 = true) (hr : N.rest s s' vs = s2) : N.comp mi g vs (Mi.ret true) te z = some ([y0, y1, y2], ⟨s2, h2⟩) := by
  have ok : ∀ {xs : List D} {z : Z}, (⟨xs, none⟩ : It).ok z = true := fun {xs z} => rfl
  refine ev_compN e (show 3 ≤ szl by unfold szl; omega) ho hw ?_ hr
  refine nl_t ok g0 rfl t0 p0 ?_
  dsimp only
  rw [w0]
  refine nl_t ok g1 rfl t1 p1 ?_
  dsimp only
  rw [w1]
  refine nl_t ok g2 rfl t2 p2 ?_
  dsimp only
  rw [w2]
  exact nl_nil ok
theorem rng3 : I.rng1 (E.c (.int 3)) z = some (⟨[.int 0, .int 1, .int 2], none⟩, z) := ev_rng1 (n := 3) ev_c ⟨by decide, by decide⟩
end
namespace St
theorem takeX (t : TS) (tl : List D) {many : Nat} (h : 0 < many) : ∃ (v : Nat) (t' : TS), v < many ∧ m_law_take [.ref 0, .int many] (tkT t tl) = some (.int v, tkT t' tl) := by
  have a := takeV_nn t (many := (many : Int)) (by omega)
  have b := takeV_lt t (many := (many : Int)) (by omega)
  refine ⟨(takeV t many).toNat, takeS t, by omega, ?_⟩
  rw [take_evT tl t (many := (many : Int)) (by omega)]
  have e : ((takeV t many).toNat : Int) = takeV t many := Int.toNat_of_nonneg a
  rw [e]
end St
end Mi

set_option Elab.async false
set_option linter.all false
set_option maxRecDepth 100000
namespace K24
open PySem L2 Mi
noncomputable section
def top (i : Nat) : Stmt := PySem.Challenge.pw_footpath_k24_boxes_anywhere.main.body.getD i (.Pass ⟨0, 0, 0, 0⟩)
abbrev s_dot : Stmt := top 1
theorem sc_dot : FnScope ["one", "two"] ["one", "two"] (defScope s_dot) := ⟨rfl, rfl, rfl, by decide +kernel, rfl, by decide +kernel, by decide +kernel⟩
abbrev s_cross : Stmt := top 2
theorem sc_cross : FnScope ["one", "two", "x", "y", "z"] ["one", "two"] (defScope s_cross) := ⟨rfl, rfl, rfl, by decide +kernel, rfl, by decide +kernel, by decide +kernel⟩
abbrev s_less : Stmt := top 3
theorem sc_less : FnScope ["one", "two"] ["one", "two"] (defScope s_less) := ⟨rfl, rfl, rfl, by decide +kernel, rfl, by decide +kernel, by decide +kernel⟩
abbrev s_axes_of : Stmt := top 4
theorem sc_axes_of : FnScope ["triangle", "units", "edges", "k", "found", "unit", "edge", "axis"] ["triangle"] (defScope s_axes_of) := ⟨rfl, rfl, rfl, by decide +kernel, rfl, by decide +kernel, by decide +kernel⟩
abbrev s_span_of : Stmt := top 5
theorem sc_span_of : FnScope ["box", "axis", "low", "high", "k", "ends"] ["box", "axis"] (defScope s_span_of) := ⟨rfl, rfl, rfl, by decide +kernel, rfl, by decide +kernel, by decide +kernel⟩
abbrev s_is_empty : Stmt := top 6
theorem sc_is_empty : FnScope ["box", "k"] ["box"] (defScope s_is_empty) := ⟨rfl, rfl, rfl, by decide +kernel, rfl, by decide +kernel, by decide +kernel⟩
abbrev s_touches : Stmt := top 7
theorem sc_touches : FnScope ["box", "triangle", "axis", "low", "high", "marks", "point"] ["box", "triangle"] (defScope s_touches) := ⟨rfl, rfl, rfl, by decide +kernel, rfl, by decide +kernel, by decide +kernel⟩
abbrev s_law_stream : Stmt := top 9
theorem sc_law_stream : FnScope ["_law_script", "_law_row", "_law_cell", "_law_left", "_law_k", "_law_seed"] ["_law_script"] (defScope s_law_stream) := ⟨rfl, rfl, rfl, by decide +kernel, rfl, by decide +kernel, by decide +kernel⟩
abbrev s_law_take : Stmt := top 10
theorem sc_law_take : FnScope ["_law_row", "_law_many"] ["_law_row", "_law_many"] (defScope s_law_take) := ⟨rfl, rfl, rfl, by decide +kernel, rfl, by decide +kernel, by decide +kernel⟩
abbrev s_law_box : Stmt := top 11
theorem sc_law_box : FnScope ["_law_row", "_law_low", "_law_k", "_law_high", "_law_part"] ["_law_row"] (defScope s_law_box) := ⟨rfl, rfl, rfl, by decide +kernel, rfl, by decide +kernel, by decide +kernel⟩
abbrev s_law_triangle : Stmt := top 12
theorem sc_law_triangle : FnScope ["_law_row", "_law_points", "_law_k", "_law_point", "_law_j"] ["_law_row"] (defScope s_law_triangle) := ⟨rfl, rfl, rfl, by decide +kernel, rfl, by decide +kernel, by decide +kernel⟩
abbrev s_law_moved : Stmt := top 13
theorem sc_law_moved : FnScope ["_law_point", "_law_order", "_law_signs", "_law_times", "_law_shift", "_law_found", "_law_k"] ["_law_point", "_law_order", "_law_signs", "_law_times", "_law_shift"] (defScope s_law_moved) := ⟨rfl, rfl, rfl, by decide +kernel, rfl, by decide +kernel, by decide +kernel⟩
abbrev s_law_box_of : Stmt := top 14
theorem sc_law_box_of : FnScope ["_law_one", "_law_two", "_law_low", "_law_k", "_law_high"] ["_law_one", "_law_two"] (defScope s_law_box_of) := ⟨rfl, rfl, rfl, by decide +kernel, rfl, by decide +kernel, by decide +kernel⟩
abbrev s_law_middle : Stmt := top 15
theorem sc_law_middle : FnScope ["_law_one", "_law_two", "_law_k"] ["_law_one", "_law_two"] (defScope s_law_middle) := ⟨rfl, rfl, rfl, by decide +kernel, rfl, by decide +kernel, by decide +kernel⟩
abbrev s_law_doubled : Stmt := top 16
theorem sc_law_doubled : FnScope ["_law_points", "_law_part", "_law_point"] ["_law_points"] (defScope s_law_doubled) := ⟨rfl, rfl, rfl, by decide +kernel, rfl, by decide +kernel, by decide +kernel⟩
abbrev s_law : Stmt := top 17
theorem sc_law : FnScope ["_law_script", "_law_row", "_law_box_here", "_law_triangle_here", "_law_told", "_law_order", "_law_signs", "_law_k", "_law_times", "_law_shift", "_law_ends", "_law_points", "_law_point", "_law_turned", "_law_other", "_law_more", "_law_larger", "_law_one", "_law_two", "_law_three", "_law_middle_here", "_law_whole", "_law_part", "_law_first", "_law_second"] ["_law_script"] (defScope s_law) := ⟨rfl, rfl, rfl, by decide +kernel, rfl, by decide +kernel, by decide +kernel⟩
/-! what each def means -/
@[reducible] def st_dot_1 : C := (C.ret (E.op O.add (E.op O.add (E.op O.mul (E.op O.ix (E.var 0) (E.c (.int 0))) (E.op O.ix (E.var 1) (E.c (.int 0)))) (E.op O.mul (E.op O.ix (E.var 0) (E.c (.int 1))) (E.op O.ix (E.var 1) (E.c (.int 1))))) (E.op O.mul (E.op O.ix (E.var 0) (E.c (.int 2))) (E.op O.ix (E.var 1) (E.c (.int 2))))))
def b_dot : C := st_dot_1
def m_dot : Fn := fn 2 2 b_dot
@[reducible] def st_cross_4 : C := (C.ret (E.tup [(E.var 2), (E.var 3), (E.var 4)]))
@[reducible] def st_cross_3 : C := (C.set 4 (E.op O.sub (E.op O.mul (E.op O.ix (E.var 0) (E.c (.int 0))) (E.op O.ix (E.var 1) (E.c (.int 1)))) (E.op O.mul (E.op O.ix (E.var 0) (E.c (.int 1))) (E.op O.ix (E.var 1) (E.c (.int 0))))))
@[reducible] def st_cross_2 : C := (C.set 3 (E.op O.sub (E.op O.mul (E.op O.ix (E.var 0) (E.c (.int 2))) (E.op O.ix (E.var 1) (E.c (.int 0)))) (E.op O.mul (E.op O.ix (E.var 0) (E.c (.int 0))) (E.op O.ix (E.var 1) (E.c (.int 2))))))
@[reducible] def st_cross_1 : C := (C.set 2 (E.op O.sub (E.op O.mul (E.op O.ix (E.var 0) (E.c (.int 1))) (E.op O.ix (E.var 1) (E.c (.int 2)))) (E.op O.mul (E.op O.ix (E.var 0) (E.c (.int 2))) (E.op O.ix (E.var 1) (E.c (.int 1))))))
def b_cross : C := (C.seq st_cross_1 (C.seq st_cross_2 (C.seq st_cross_3 st_cross_4)))
def m_cross : Fn := fn 5 2 b_cross
@[reducible] def st_less_1 : C := (C.ret (E.tup [(E.op O.sub (E.op O.ix (E.var 0) (E.c (.int 0))) (E.op O.ix (E.var 1) (E.c (.int 0)))), (E.op O.sub (E.op O.ix (E.var 0) (E.c (.int 1))) (E.op O.ix (E.var 1) (E.c (.int 1)))), (E.op O.sub (E.op O.ix (E.var 0) (E.c (.int 2))) (E.op O.ix (E.var 1) (E.c (.int 2))))]))
def b_less : C := st_less_1
def m_less : Fn := fn 2 2 b_less
def cp_axes_of1 : M (List D) := (N.comp (I.rng1 (E.c (.int 3))) (G.nm 3) [3] (ret true) (E.call m_less [(E.op O.ix (E.var 0) (E.var 3)), (E.op O.ix (E.var 0) (E.op O.sub (E.var 3) (E.c (.int 1))))]))
def lp_axes_of2 : C := (C.drop (E.chg U.extend (E.var 4) [(E.frz (N.comp (I.seqC (E.var 2)) (G.nm 6) [6] (ret true) (E.call m_cross [(E.var 5), (E.var 6)])))]))
def cp_axes_of3 : M (List D) := (N.comp (I.seqC (E.var 4)) (G.nm 7) [7] (T.val (E.op O.ne (E.var 7) (E.tup [(E.c (.int 0)), (E.c (.int 0)), (E.c (.int 0))]))) (E.var 7))
@[reducible] def st_axes_of_4 : C := (C.for_ (I.seq (E.var 1)) (G.nm 5) lp_axes_of2)
@[reducible] def st_axes_of_3 : C := (C.own 4 (N.cat (E.var 1) (E.frz (N.disp [(E.call m_cross [(E.op O.ix (E.var 2) (E.c (.int 0))), (E.op O.ix (E.var 2) (E.c (.int 1)))])]))))
@[reducible] def st_axes_of_1 : C := (C.set 1 (E.frz (N.disp [(E.tup [(E.c (.int 1)), (E.c (.int 0)), (E.c (.int 0))]), (E.tup [(E.c (.int 0)), (E.c (.int 1)), (E.c (.int 0))]), (E.tup [(E.c (.int 0)), (E.c (.int 0)), (E.c (.int 1))])])))
def b_axes_of : C := (C.seq st_axes_of_1 (C.seq (C.set 2 (E.frz cp_axes_of1)) (C.seq st_axes_of_3 (C.seq st_axes_of_4 (C.ret (E.frz cp_axes_of3))))))
def m_axes_of : Fn := fn 8 1 b_axes_of
def lp_span_of1 : C := (C.seq (C.set 5 (E.tup [(E.op O.mul (E.op O.ix (E.var 1) (E.var 4)) (E.op O.ix (E.var 0) (E.var 4))), (E.op O.mul (E.op O.ix (E.var 1) (E.var 4)) (E.op O.ix (E.var 0) (E.op O.add (E.var 4) (E.c (.int 3)))))])) (C.seq (C.aug 2 O.add (E.blt F.minR [(E.var 5)])) (C.aug 3 O.add (E.blt F.maxR [(E.var 5)]))))
@[reducible] def st_span_of_4 : C := (C.ret (E.tup [(E.var 2), (E.var 3)]))
@[reducible] def st_span_of_3 : C := (C.for_ (I.rng1 (E.c (.int 3))) (G.nm 4) lp_span_of1)
def b_span_of : C := (C.seq (C.set 2 (E.c (.int 0))) (C.seq (C.set 3 (E.c (.int 0))) (C.seq st_span_of_3 st_span_of_4)))
def m_span_of : Fn := fn 6 2 b_span_of
def cp_is_empty1 : M (List D) := (N.comp (I.rng1 (E.c (.int 3))) (G.nm 1) [1] (ret true) (E.op O.ge (E.op O.ix (E.var 0) (E.var 1)) (E.op O.ix (E.var 0) (E.op O.add (E.var 1) (E.c (.int 3))))))
@[reducible] def st_is_empty_1 : C := (C.ret (E.blt F.any1 [(E.frz cp_is_empty1)]))
def b_is_empty : C := st_is_empty_1
def m_is_empty : Fn := fn 2 1 b_is_empty
def lp_touches1 : C := (C.seq (C.asg (G.tp [(G.nm 3), (G.nm 4)]) (E.call m_span_of [(E.var 0), (E.var 2)])) (C.seq (C.set 5 (E.frz (N.comp (I.seqC (E.var 1)) (G.nm 6) [6] (ret true) (E.call m_dot [(E.var 2), (E.var 6)])))) (C.ite (T.or (T.val (E.op O.le (E.blt F.maxR [(E.var 5)]) (E.var 3))) (T.val (E.op O.ge (E.blt F.minR [(E.var 5)]) (E.var 4)))) (C.ret (E.c (.bl false))) C.skip)))
@[reducible] def st_touches_2 : C := (C.for_ (I.seq (E.call m_axes_of [(E.var 1)])) (G.nm 2) lp_touches1)
@[reducible] def st_touches_1 : C := (C.ite (T.tru (E.call m_is_empty [(E.var 0)])) (C.ret (E.c (.bl false))) C.skip)
def b_touches : C := (C.seq st_touches_1 (C.seq st_touches_2 (C.ret (E.c (.bl true)))))
def m_touches : Fn := fn 7 2 b_touches
def lp_law_stream1 : C := (C.seq (C.drop (E.chg U.append (E.var 1) [(E.op O.mod (E.var 3) (E.c (.int 59)))])) (C.seq (C.set 3 (E.op O.div (E.var 3) (E.c (.int 59)))) (C.ite (T.val (E.op O.eq (E.var 3) (E.c (.int 0)))) C.brk C.skip)))
def lp_law_stream2 : C := (C.seq (C.set 3 (E.blt F.abs [(E.blt F.int1 [(E.var 2)])])) (C.for_ (I.rng1 (E.c (.int 60))) (G.nm 4) lp_law_stream1))
def lp_law_stream3 : C := (C.set 5 (E.op O.mod (E.blt F.int1 [(E.op O.add (E.op O.add (E.op O.mul (E.var 5) (E.c (.int 131))) (E.var 2)) (E.c (.int 17)))]) (E.c (.int 1000003))))
def lp_law_stream4 : C := (C.seq (C.set 5 (E.op O.mod (E.blt F.int1 [(E.op O.add (E.op O.add (E.op O.mul (E.var 5) (E.c (.int 48271))) (E.op O.mul (E.var 4) (E.c (.int 69621)))) (E.c (.int 11)))]) (E.c (.int 2147483647)))) (C.drop (E.chg U.append (E.var 1) [(E.op O.mod (E.op O.div (E.var 5) (E.c (.int 1009))) (E.c (.int 59)))])))
@[reducible] def st_law_stream_5 : C := (C.for_ (I.rng1 (E.c (.int 150))) (G.nm 4) lp_law_stream4)
@[reducible] def st_law_stream_4 : C := (C.for_ (I.seq (E.frz (N.slice (E.var 0) none (some (E.c (.int 63)))))) (G.nm 2) lp_law_stream3)
@[reducible] def st_law_stream_2 : C := (C.for_ (I.seq (E.frz (N.slice (E.var 0) none (some (E.c (.int 63)))))) (G.nm 2) lp_law_stream2)
@[reducible] def st_law_stream_1 : C := (C.own 1 (N.disp [(E.c (.int 1))]))
def b_law_stream : C := (C.seq st_law_stream_1 (C.seq st_law_stream_2 (C.seq (C.set 5 (E.c (.int 7))) (C.seq st_law_stream_4 (C.seq st_law_stream_5 (C.retS (E.var 1)))))))
def m_law_stream : Fn := fn 6 1 b_law_stream
@[reducible] def st_law_take_1 : C := (C.ite (T.val (E.op O.lt (E.op O.ix (E.var 0) (E.c (.int 0))) (E.blt F.len [(E.var 0)]))) (C.seq (C.setIx (E.var 0) (E.c (.int 0)) (E.op O.add (E.op O.ix (E.var 0) (E.c (.int 0))) (E.c (.int 1)))) (C.ret (E.op O.mod (E.blt F.int1 [(E.op O.ix (E.var 0) (E.op O.sub (E.op O.ix (E.var 0) (E.c (.int 0))) (E.c (.int 1))))]) (E.var 1)))) C.skip)
def b_law_take : C := (C.seq st_law_take_1 (C.ret (E.c (.int 0))))
def m_law_take : Fn := fn 2 2 b_law_take
def cp_law_box1 : M (List D) := (N.comp (I.rng1 (E.c (.int 3))) (G.nm 2) [2] (ret true) (E.op O.sub (E.call m_law_take [(E.var 0), (E.c (.int 9))]) (E.c (.int 4))))
def cp_law_box2 : M (List D) := (N.comp (I.seqC (E.var 1)) (G.nm 4) [4] (ret true) (E.op O.add (E.var 4) (E.call m_law_take [(E.var 0), (E.c (.int 5))])))
@[reducible] def st_law_box_3 : C := (C.ret (E.tup [(E.op O.ix (E.var 1) (E.c (.int 0))), (E.op O.ix (E.var 1) (E.c (.int 1))), (E.op O.ix (E.var 1) (E.c (.int 2))), (E.op O.ix (E.var 3) (E.c (.int 0))), (E.op O.ix (E.var 3) (E.c (.int 1))), (E.op O.ix (E.var 3) (E.c (.int 2)))]))
def b_law_box : C := (C.seq (C.set 1 (E.frz cp_law_box1)) (C.seq (C.set 3 (E.frz cp_law_box2)) st_law_box_3))
def m_law_box : Fn := fn 5 1 b_law_box
def cp_law_triangle1 : M (List D) := (N.comp (I.rng1 (E.c (.int 3))) (G.nm 4) [4] (ret true) (E.op O.sub (E.call m_law_take [(E.var 0), (E.c (.int 17))]) (E.c (.int 6))))
def lp_law_triangle2 : C := (C.seq (C.set 3 (E.frz cp_law_triangle1)) (C.drop (E.chg U.append (E.var 1) [(E.tup [(E.op O.ix (E.var 3) (E.c (.int 0))), (E.op O.ix (E.var 3) (E.c (.int 1))), (E.op O.ix (E.var 3) (E.c (.int 2)))])])))
@[reducible] def st_law_triangle_4 : C := (C.ret (E.tup [(E.op O.ix (E.var 1) (E.c (.int 0))), (E.op O.ix (E.var 1) (E.c (.int 1))), (E.op O.ix (E.var 1) (E.c (.int 2)))]))
@[reducible] def st_law_triangle_3 : C := (C.ite (T.val (E.op O.eq (E.call m_law_take [(E.var 0), (E.c (.int 5))]) (E.c (.int 0)))) (C.setIx (E.var 1) (E.c (.int 2)) (E.op O.ix (E.var 1) (E.call m_law_take [(E.var 0), (E.c (.int 2))]))) C.skip)
@[reducible] def st_law_triangle_2 : C := (C.for_ (I.rng1 (E.c (.int 3))) (G.nm 2) lp_law_triangle2)
def b_law_triangle : C := (C.seq (C.own 1 (N.disp [])) (C.seq st_law_triangle_2 (C.seq st_law_triangle_3 st_law_triangle_4)))
def m_law_triangle : Fn := fn 5 1 b_law_triangle
def cp_law_moved1 : M (List D) := (N.comp (I.rng1 (E.c (.int 3))) (G.nm 6) [6] (ret true) (E.op O.add (E.op O.mul (E.op O.mul (E.op O.ix (E.var 2) (E.var 6)) (E.var 3)) (E.op O.ix (E.var 0) (E.op O.ix (E.var 1) (E.var 6)))) (E.op O.ix (E.var 4) (E.var 6))))
@[reducible] def st_law_moved_2 : C := (C.ret (E.tup [(E.op O.ix (E.var 5) (E.c (.int 0))), (E.op O.ix (E.var 5) (E.c (.int 1))), (E.op O.ix (E.var 5) (E.c (.int 2)))]))
@[reducible] def st_law_moved_1 : C := (C.set 5 (E.frz cp_law_moved1))
def b_law_moved : C := (C.seq st_law_moved_1 st_law_moved_2)
def m_law_moved : Fn := fn 7 5 b_law_moved
def cp_law_box_of1 : M (List D) := (N.comp (I.rng1 (E.c (.int 3))) (G.nm 3) [3] (ret true) (E.blt F.min2 [(E.op O.ix (E.var 0) (E.var 3)), (E.op O.ix (E.var 1) (E.var 3))]))
def cp_law_box_of2 : M (List D) := (N.comp (I.rng1 (E.c (.int 3))) (G.nm 3) [3] (ret true) (E.blt F.max2 [(E.op O.ix (E.var 0) (E.var 3)), (E.op O.ix (E.var 1) (E.var 3))]))
@[reducible] def st_law_box_of_3 : C := (C.ret (E.tup [(E.op O.ix (E.var 2) (E.c (.int 0))), (E.op O.ix (E.var 2) (E.c (.int 1))), (E.op O.ix (E.var 2) (E.c (.int 2))), (E.op O.ix (E.var 4) (E.c (.int 0))), (E.op O.ix (E.var 4) (E.c (.int 1))), (E.op O.ix (E.var 4) (E.c (.int 2)))]))
@[reducible] def st_law_box_of_2 : C := (C.set 4 (E.frz cp_law_box_of2))
@[reducible] def st_law_box_of_1 : C := (C.set 2 (E.frz cp_law_box_of1))
def b_law_box_of : C := (C.seq st_law_box_of_1 (C.seq st_law_box_of_2 st_law_box_of_3))
def m_law_box_of : Fn := fn 5 2 b_law_box_of
def cp_law_middle1 : M (List D) := (N.comp (I.rng1 (E.c (.int 3))) (G.nm 2) [2] (ret true) (E.op O.div (E.blt F.int1 [(E.op O.add (E.op O.ix (E.var 0) (E.var 2)) (E.op O.ix (E.var 1) (E.var 2)))]) (E.c (.int 2))))
@[reducible] def st_law_middle_1 : C := (C.ret (E.blt F.tuple [(E.frz cp_law_middle1)]))
def b_law_middle : C := st_law_middle_1
def m_law_middle : Fn := fn 3 2 b_law_middle
def cp_law_doubled1 : M (List D) := (N.comp (I.seqC (E.var 0)) (G.nm 2) [2] (ret true) (E.blt F.tuple [(E.frz (N.comp (I.seqC (E.var 2)) (G.nm 1) [1] (ret true) (E.op O.mul (E.c (.int 2)) (E.var 1))))]))
@[reducible] def st_law_doubled_1 : C := (C.ret (E.blt F.tuple [(E.frz cp_law_doubled1)]))
def b_law_doubled : C := st_law_doubled_1
def m_law_doubled : Fn := fn 3 1 b_law_doubled
def cp_law1 : M (List D) := (N.comp (I.rng1 (E.c (.int 3))) (G.nm 7) [7] (ret true) (E.op O.sub (E.c (.int 1)) (E.op O.mul (E.c (.int 2)) (E.call m_law_take [(E.var 1), (E.c (.int 2))]))))
def cp_law2 : M (List D) := (N.comp (I.rng1 (E.c (.int 3))) (G.nm 7) [7] (ret true) (E.op O.add (E.op O.sub (E.op O.mul (E.call m_law_take [(E.var 1), (E.c (.int 59))]) (E.c (.int 13000))) (E.op O.mul (E.call m_law_take [(E.var 1), (E.c (.int 59))]) (E.c (.int 11000)))) (E.call m_law_take [(E.var 1), (E.c (.int 59))])))
def cp_law3 : M (List D) := (N.comp (I.seqC (E.var 3)) (G.nm 12) [12] (ret true) (E.call m_law_moved [(E.var 12), (E.var 5), (E.var 6), (E.var 8), (E.var 9)]))
def cp_law4 : M (List D) := (N.comp (I.rng1 (E.c (.int 3))) (G.nm 7) [7] (ret true) (E.op O.sub (E.op O.ix (E.var 2) (E.var 7)) (E.op O.ix (E.var 15) (E.var 7))))
def cp_law5 : M (List D) := (N.comp (I.rng2 (E.c (.int 3)) (E.c (.int 6))) (G.nm 7) [7] (ret true) (E.op O.add (E.op O.ix (E.var 2) (E.var 7)) (E.op O.ix (E.var 15) (E.var 7))))
@[reducible] def st_law_22 : C := (C.ret (E.op O.eq (E.or (E.var 23) (E.var 24)) (E.var 4)))
@[reducible] def st_law_21 : C := (C.set 24 (E.call m_touches [(E.var 21), (E.tup [(E.var 20), (E.var 18), (E.var 19)])]))
@[reducible] def st_law_20 : C := (C.set 23 (E.call m_touches [(E.var 21), (E.tup [(E.var 17), (E.var 20), (E.var 19)])]))
@[reducible] def st_law_19 : C := (C.set 21 (E.blt F.tuple [(E.frz (N.comp (I.seqC (E.var 2)) (G.nm 22) [22] (ret true) (E.op O.mul (E.c (.int 2)) (E.var 22))))]))
@[reducible] def st_law_18 : C := (C.set 20 (E.call m_law_middle [(E.var 17), (E.var 18)]))
@[reducible] def st_law_17 : C := (C.asg (G.tp [(G.nm 17), (G.nm 18), (G.nm 19)]) (E.call m_law_doubled [(E.var 3)]))
@[reducible] def st_law_16 : C := (C.ite (T.and (T.tru (E.var 4)) (T.not (T.tru (E.call m_touches [(E.var 16), (E.var 3)])))) (C.ret (E.c (.bl false))) C.skip)
@[reducible] def st_law_15 : C := (C.set 16 (E.blt F.tuple [(E.frz (N.cat (E.frz cp_law4) (E.frz cp_law5)))]))
@[reducible] def st_law_14 : C := (C.set 15 (E.frz (N.comp (I.rng1 (E.c (.int 6))) (G.nm 7) [7] (ret true) (E.call m_law_take [(E.var 1), (E.c (.int 3))]))))
@[reducible] def st_law_13 : C := (C.ite (T.val (E.op O.ne (E.call m_touches [(E.call m_law_box_of [(E.op O.ix (E.var 10) (E.c (.int 0))), (E.op O.ix (E.var 10) (E.c (.int 1)))]), (E.var 14)]) (E.var 4))) (C.ret (E.c (.bl false))) C.skip)
@[reducible] def st_law_12 : C := (C.set 14 (E.tup [(E.op O.ix (E.var 11) (E.op O.ix (E.var 13) (E.c (.int 0)))), (E.op O.ix (E.var 11) (E.op O.ix (E.var 13) (E.c (.int 1)))), (E.op O.ix (E.var 11) (E.op O.ix (E.var 13) (E.c (.int 2))))]))
@[reducible] def st_law_11 : C := (C.set 13 (E.op O.ix (E.frz (N.disp [(E.frz (N.disp [(E.c (.int 0)), (E.c (.int 1)), (E.c (.int 2))])), (E.frz (N.disp [(E.c (.int 0)), (E.c (.int 2)), (E.c (.int 1))])), (E.frz (N.disp [(E.c (.int 1)), (E.c (.int 0)), (E.c (.int 2))])), (E.frz (N.disp [(E.c (.int 1)), (E.c (.int 2)), (E.c (.int 0))])), (E.frz (N.disp [(E.c (.int 2)), (E.c (.int 0)), (E.c (.int 1))])), (E.frz (N.disp [(E.c (.int 2)), (E.c (.int 1)), (E.c (.int 0))]))])) (E.call m_law_take [(E.var 1), (E.c (.int 6))])))
@[reducible] def st_law_9 : C := (C.set 10 (E.frz (N.disp [(E.call m_law_moved [(E.cutT (E.var 2) none (some (E.c (.int 3)))), (E.var 5), (E.var 6), (E.var 8), (E.var 9)]), (E.call m_law_moved [(E.cutT (E.var 2) (some (E.c (.int 3))) none), (E.var 5), (E.var 6), (E.var 8), (E.var 9)])])))
@[reducible] def st_law_7 : C := (C.set 8 (E.op O.add (E.c (.int 1)) (E.op O.mul (E.call m_law_take [(E.var 1), (E.c (.int 59))]) (E.call m_law_take [(E.var 1), (E.c (.int 17))]))))
@[reducible] def st_law_5 : C := (C.set 5 (E.op O.ix (E.frz (N.disp [(E.frz (N.disp [(E.c (.int 0)), (E.c (.int 1)), (E.c (.int 2))])), (E.frz (N.disp [(E.c (.int 0)), (E.c (.int 2)), (E.c (.int 1))])), (E.frz (N.disp [(E.c (.int 1)), (E.c (.int 0)), (E.c (.int 2))])), (E.frz (N.disp [(E.c (.int 1)), (E.c (.int 2)), (E.c (.int 0))])), (E.frz (N.disp [(E.c (.int 2)), (E.c (.int 0)), (E.c (.int 1))])), (E.frz (N.disp [(E.c (.int 2)), (E.c (.int 1)), (E.c (.int 0))]))])) (E.call m_law_take [(E.var 1), (E.c (.int 6))])))
@[reducible] def st_law_4 : C := (C.set 4 (E.call m_touches [(E.var 2), (E.var 3)]))
@[reducible] def st_law_3 : C := (C.set 3 (E.call m_law_triangle [(E.var 1)]))
@[reducible] def st_law_2 : C := (C.set 2 (E.call m_law_box [(E.var 1)]))
@[reducible] def st_law_1 : C := (C.set 1 (E.call m_law_stream [(E.var 0)]))
def b_law : C := (C.seq st_law_1 (C.seq st_law_2 (C.seq st_law_3 (C.seq st_law_4 (C.seq st_law_5 (C.seq (C.set 6 (E.frz cp_law1)) (C.seq st_law_7 (C.seq (C.set 9 (E.frz cp_law2)) (C.seq st_law_9 (C.seq (C.set 11 (E.frz cp_law3)) (C.seq st_law_11 (C.seq st_law_12 (C.seq st_law_13 (C.seq st_law_14 (C.seq st_law_15 (C.seq st_law_16 (C.seq st_law_17 (C.seq st_law_18 (C.seq st_law_19 (C.seq st_law_20 (C.seq st_law_21 st_law_22)))))))))))))))))))))
def m_law : Fn := fn 25 1 b_law
end
end K24

set_option Elab.async false
set_option linter.all false
set_option maxRecDepth 100000
set_option maxHeartbeats 2000000
/-! Plain: a triangle and the inside of a box, by axes that keep them apart. -/
namespace Sat
/-! ### four vectors with three numbers depend -/
theorem dep1 (x y : Int) : ∃ a b : Int, (a ≠ 0 ∨ b ≠ 0) ∧ a * x + b * y = 0 := by
  by_cases h : x = 0
  · exact ⟨1, 0, .inl (by decide), by rw [h]; omega⟩
  · exact ⟨y, -x, .inr (by omega), by grind⟩
theorem dep2 (x1 x2 x3 y1 y2 y3 : Int) : ∃ a b c : Int, (a ≠ 0 ∨ b ≠ 0 ∨ c ≠ 0) ∧ a * x1 + b * x2 + c * x3 = 0 ∧ a * y1 + b * y2 + c * y3 = 0 := by
  by_cases h1 : x1 = 0
  · by_cases h2 : x2 = 0
    · obtain ⟨a, b, h, e⟩ := dep1 y1 y2
      exact ⟨a, b, 0, by omega, by rw [h1, h2]; omega, by omega⟩
    · obtain ⟨a, b, h, e⟩ := dep1 (x2 * y1 - x1 * y2) (x2 * y3 - x3 * y2)
      refine ⟨a * x2, -(a * x1 + b * x3), b * x2, ?_, by grind, by grind⟩
      rcases h with h | h
      · exact .inl (Int.mul_ne_zero h h2)
      · exact .inr (.inr (Int.mul_ne_zero h h2))
  · obtain ⟨a, b, h, e⟩ := dep1 (x1 * y2 - x2 * y1) (x1 * y3 - x3 * y1)
    refine ⟨-(a * x2 + b * x3), a * x1, b * x1, ?_, by grind, by grind⟩
    rcases h with h | h
    · exact .inr (.inl (Int.mul_ne_zero h h1))
    · exact .inr (.inr (Int.mul_ne_zero h h1))
theorem dep3 (x1 x2 x3 x4 y1 y2 y3 y4 z1 z2 z3 z4 : Int) : ∃ a b c d : Int, (a ≠ 0 ∨ b ≠ 0 ∨ c ≠ 0 ∨ d ≠ 0) ∧ a * x1 + b * x2 + c * x3 + d * x4 = 0 ∧ a * y1 + b * y2 + c * y3 + d * y4 = 0 ∧ a * z1 + b * z2 + c * z3 + d * z4 = 0 := by
  by_cases h1 : x1 = 0
  · by_cases h2 : x2 = 0
    · by_cases h3 : x3 = 0
      · obtain ⟨a, b, c, h, e, e2⟩ := dep2 y1 y2 y3 z1 z2 z3
        exact ⟨a, b, c, 0, by omega, by rw [h1, h2, h3]; omega, by omega, by omega⟩
      · obtain ⟨a, b, c, h, e, e2⟩ := dep2 (x3 * y1 - x1 * y3) (x3 * y2 - x2 * y3) (x3 * y4 - x4 * y3) (x3 * z1 - x1 * z3) (x3 * z2 - x2 * z3) (x3 * z4 - x4 * z3)
        refine ⟨a * x3, b * x3, -(a * x1 + b * x2 + c * x4), c * x3, ?_, by grind, by grind, by grind⟩
        rcases h with h | h | h
        · exact .inl (Int.mul_ne_zero h h3)
        · exact .inr (.inl (Int.mul_ne_zero h h3))
        · exact .inr (.inr (.inr (Int.mul_ne_zero h h3)))
    · obtain ⟨a, b, c, h, e, e2⟩ := dep2 (x2 * y1 - x1 * y2) (x2 * y3 - x3 * y2) (x2 * y4 - x4 * y2) (x2 * z1 - x1 * z2) (x2 * z3 - x3 * z2) (x2 * z4 - x4 * z2)
      refine ⟨a * x2, -(a * x1 + b * x3 + c * x4), b * x2, c * x2, ?_, by grind, by grind, by grind⟩
      rcases h with h | h | h
      · exact .inl (Int.mul_ne_zero h h2)
      · exact .inr (.inr (.inl (Int.mul_ne_zero h h2)))
      · exact .inr (.inr (.inr (Int.mul_ne_zero h h2)))
  · obtain ⟨a, b, c, h, e, e2⟩ := dep2 (x1 * y2 - x2 * y1) (x1 * y3 - x3 * y1) (x1 * y4 - x4 * y1) (x1 * z2 - x2 * z1) (x1 * z3 - x3 * z1) (x1 * z4 - x4 * z1)
    refine ⟨-(a * x2 + b * x3 + c * x4), a * x1, b * x1, c * x1, ?_, by grind, by grind, by grind⟩
    rcases h with h | h | h
    · exact .inr (.inl (Int.mul_ne_zero h h1))
    · exact .inr (.inr (.inl (Int.mul_ne_zero h h1)))
    · exact .inr (.inr (.inr (Int.mul_ne_zero h h1)))
/-! ### the half of a dependency that is positive -/
def pp (a f : Int) : Int := if 0 < a then a * f else 0
theorem pp_lin (a c0 c1 c2 x y z : Int) : pp a (c0 * x + c1 * y + c2 * z) = c0 * pp a x + c1 * pp a y + c2 * pp a z := by
  unfold pp
  split <;> grind
theorem pp_nn {a f : Int} (h : 0 ≤ f) : 0 ≤ pp a f := by
  unfold pp
  split
  · exact Int.mul_nonneg (by omega) h
  · exact Int.le_refl _
theorem num {a b c d f1 f2 f3 f4 : Int} (e : a * f1 + b * f2 + c * f3 + d * f4 = 0) (hp : 0 < a ∨ 0 < b ∨ 0 < c ∨ 0 < d) (hn : a < 0 ∨ b < 0 ∨ c < 0 ∨ d < 0) (h2 : 0 < f2) (h3 : 0 < f3) (h4 : 0 < f4) : 0 < pp a f1 + pp b f2 + pp c f3 + pp d f4 := by
  have k : ∀ {u v : Int}, 0 < v → (0 < u → 0 < u * v) ∧ (u < 0 → u * v < 0) ∧ (u = 0 → u * v = 0) := fun {u v} hv => ⟨fun hu => Int.mul_pos hu hv, fun hu => Int.mul_neg_of_neg_of_pos hu hv, fun hu => by rw [hu, Int.zero_mul]⟩
  have k2 := k (u := b) h2
  have k3 := k (u := c) h3
  have k4 := k (u := d) h4
  have k1 : a = 0 → a * f1 = 0 := fun h => by rw [h, Int.zero_mul]
  unfold pp
  generalize a * f1 = A at *
  generalize b * f2 = B at *
  generalize c * f3 = C at *
  generalize d * f4 = E at *
  split <;> split <;> split <;> split <;> omega
theorem numN {a b c d f1 f2 f3 f4 : Int} (e : a * f1 + b * f2 + c * f3 + d * f4 = 0) (h2 : 0 ≤ f2) (h3 : 0 ≤ f3) (h4 : 0 ≤ f4) : 0 ≤ pp a f1 + pp b f2 + pp c f3 + pp d f4 := by
  have k : ∀ {u v : Int}, 0 ≤ v → (0 < u → 0 ≤ u * v) ∧ (u < 0 → u * v ≤ 0) ∧ (u = 0 → u * v = 0) := fun {u v} hv => ⟨fun hu => Int.mul_nonneg (by omega) hv, fun hu => Int.mul_nonpos_of_nonpos_of_nonneg (by omega) hv, fun hu => by rw [hu, Int.zero_mul]⟩
  have k2 := k (u := b) h2
  have k3 := k (u := c) h3
  have k4 := k (u := d) h4
  have k1 : a = 0 → a * f1 = 0 := fun h => by rw [h, Int.zero_mul]
  unfold pp
  generalize a * f1 = A at *
  generalize b * f2 = B at *
  generalize c * f3 = C at *
  generalize d * f4 = E at *
  split <;> split <;> split <;> split <;> omega
theorem signs {a b c d f1 f2 f3 f4 : Int} (h : a ≠ 0 ∨ b ≠ 0 ∨ c ≠ 0 ∨ d ≠ 0) (e : a * f1 + b * f2 + c * f3 + d * f4 = 0) (h1 : 0 < f1) (h2 : 0 < f2) (h3 : 0 < f3) (h4 : 0 < f4) : (0 < a ∨ 0 < b ∨ 0 < c ∨ 0 < d) ∧ (a < 0 ∨ b < 0 ∨ c < 0 ∨ d < 0) := by
  have k : ∀ {u v : Int}, 0 < v → (0 < u → 0 < u * v) ∧ (u < 0 → u * v < 0) ∧ (u = 0 → u * v = 0) := fun {u v} hv => ⟨fun hu => Int.mul_pos hu hv, fun hu => Int.mul_neg_of_neg_of_pos hu hv, fun hu => by rw [hu, Int.zero_mul]⟩
  have k1 := k (u := a) h1
  have k2 := k (u := b) h2
  have k3 := k (u := c) h3
  have k4 := k (u := d) h4
  generalize a * f1 = A at *
  generalize b * f2 = B at *
  generalize c * f3 = C at *
  generalize d * f4 = E at *
  omega
/-- shares of the three points -/
structure V where
  a : Int
  b : Int
  c : Int
def V.on (f : V) (w : V) : Int := f.a * w.a + f.b * w.b + f.c * w.c
def V.sum (w : V) : Int := w.a + w.b + w.c
def mix (a b c d : Int) (p1 p2 p3 p4 : V) : V := ⟨pp a p1.a + pp b p2.a + pp c p3.a + pp d p4.a, pp a p1.b + pp b p2.b + pp c p3.b + pp d p4.b, pp a p1.c + pp b p2.c + pp c p3.c + pp d p4.c⟩
theorem mix_on (f : V) (a b c d : Int) (p1 p2 p3 p4 : V) : f.on (mix a b c d p1 p2 p3 p4) = pp a (f.on p1) + pp b (f.on p2) + pp c (f.on p3) + pp d (f.on p4) := by
  unfold V.on mix
  rw [pp_lin, pp_lin, pp_lin, pp_lin]
  dsimp only
  grind
theorem dep_on {f p1 p2 p3 p4 : V} {a b c d : Int} (e1 : a * p1.a + b * p2.a + c * p3.a + d * p4.a = 0) (e2 : a * p1.b + b * p2.b + c * p3.b + d * p4.b = 0) (e3 : a * p1.c + b * p2.c + c * p3.c + d * p4.c = 0) : a * f.on p1 + b * f.on p2 + c * f.on p3 + d * f.on p4 = 0 := by
  unfold V.on
  grind
/-- four points, each in all sets but one: a point in all -/
theorem radon {p1 p2 p3 p4 : V} (h1 : 0 < p1.sum) (h2 : 0 < p2.sum) (h3 : 0 < p3.sum) (h4 : 0 < p4.sum) : ∃ q : V, ∀ f : V,
    ((0 < f.on p2 → 0 < f.on p3 → 0 < f.on p4 → 0 < f.on q) ∧ (0 < f.on p1 → 0 < f.on p3 → 0 < f.on p4 → 0 < f.on q) ∧ (0 < f.on p1 → 0 < f.on p2 → 0 < f.on p4 → 0 < f.on q) ∧ (0 < f.on p1 → 0 < f.on p2 → 0 < f.on p3 → 0 < f.on q)) ∧
    ((0 ≤ f.on p2 → 0 ≤ f.on p3 → 0 ≤ f.on p4 → 0 ≤ f.on q) ∧ (0 ≤ f.on p1 → 0 ≤ f.on p3 → 0 ≤ f.on p4 → 0 ≤ f.on q) ∧ (0 ≤ f.on p1 → 0 ≤ f.on p2 → 0 ≤ f.on p4 → 0 ≤ f.on q) ∧ (0 ≤ f.on p1 → 0 ≤ f.on p2 → 0 ≤ f.on p3 → 0 ≤ f.on q)) := by
  obtain ⟨a, b, c, d, h, e1, e2, e3⟩ := dep3 p1.a p2.a p3.a p4.a p1.b p2.b p3.b p4.b p1.c p2.c p3.c p4.c
  have eS : a * p1.sum + b * p2.sum + c * p3.sum + d * p4.sum = 0 := by
    have := dep_on (f := ⟨1, 1, 1⟩) e1 e2 e3
    unfold V.on at this
    unfold V.sum
    grind
  obtain ⟨hp, hn⟩ := signs h eS h1 h2 h3 h4
  refine ⟨mix a b c d p1 p2 p3 p4, fun f => ?_⟩
  have e := dep_on (f := f) e1 e2 e3
  rw [mix_on]
  generalize f.on p1 = f1 at *
  generalize f.on p2 = f2 at *
  generalize f.on p3 = f3 at *
  generalize f.on p4 = f4 at *
  refine ⟨⟨fun q2 q3 q4 => ?_, fun q1 q3 q4 => ?_, fun q1 q2 q4 => ?_, fun q1 q2 q3 => ?_⟩, fun q2 q3 q4 => ?_, fun q1 q3 q4 => ?_, fun q1 q2 q4 => ?_, fun q1 q2 q3 => ?_⟩
  · exact num e hp hn q2 q3 q4
  · have := num (a := b) (b := a) (c := c) (d := d) (f1 := f2) (by omega) (by omega) (by omega) q1 q3 q4; omega
  · have := num (a := c) (b := a) (c := b) (d := d) (f1 := f3) (by omega) (by omega) (by omega) q1 q2 q4; omega
  · have := num (a := d) (b := a) (c := b) (d := c) (f1 := f4) (by omega) (by omega) (by omega) q1 q2 q3; omega
  · exact numN e q2 q3 q4
  · have := numN (a := b) (b := a) (c := c) (d := d) (f1 := f2) (by omega) q1 q3 q4; omega
  · have := numN (a := c) (b := a) (c := b) (d := d) (f1 := f3) (by omega) q1 q2 q4; omega
  · have := numN (a := d) (b := a) (c := b) (d := c) (f1 := f4) (by omega) q1 q2 q3; omega
/-- three points where one direction does not count -/
theorem radon3 {p1 p2 p3 k : V} (h1 : 0 < p1.sum) (h2 : 0 < p2.sum) (h3 : 0 < p3.sum) (hk : k.sum = 0) (hk0 : k.a ≠ 0 ∨ k.b ≠ 0 ∨ k.c ≠ 0) : ∃ q : V,
    (∀ f : V, f.on k = 0 → (0 < f.on p2 → 0 < f.on p3 → 0 < f.on q) ∧ (0 < f.on p1 → 0 < f.on p3 → 0 < f.on q) ∧ (0 < f.on p1 → 0 < f.on p2 → 0 < f.on q)) ∧
    (∀ f : V, 0 ≤ f.on p1 → 0 ≤ f.on p2 → 0 ≤ f.on q) := by
  obtain ⟨a, b, c, d, h, e1, e2, e3⟩ := dep3 p1.a p2.a p3.a k.a p1.b p2.b p3.b k.b p1.c p2.c p3.c k.c
  obtain ⟨a, b, c, d, hc, h, e1, e2, e3⟩ : ∃ a b c d : Int, c ≤ 0 ∧ (a ≠ 0 ∨ b ≠ 0 ∨ c ≠ 0 ∨ d ≠ 0) ∧ a * p1.a + b * p2.a + c * p3.a + d * k.a = 0 ∧ a * p1.b + b * p2.b + c * p3.b + d * k.b = 0 ∧ a * p1.c + b * p2.c + c * p3.c + d * k.c = 0 := by
    by_cases hc : c ≤ 0
    · exact ⟨a, b, c, d, hc, h, e1, e2, e3⟩
    · exact ⟨-a, -b, -c, -d, by omega, by omega, by grind, by grind, by grind⟩
  have eS : a * p1.sum + b * p2.sum + c * p3.sum + 0 * 1 = 0 := by
    have := dep_on (f := ⟨1, 1, 1⟩) e1 e2 e3
    unfold V.on at this
    unfold V.sum at hk ⊢
    grind
  have h0 : a ≠ 0 ∨ b ≠ 0 ∨ c ≠ 0 ∨ (0 : Int) ≠ 0 := by
    by_cases ha : a = 0
    · by_cases hb : b = 0
      · by_cases hc0 : c = 0
        · subst ha hb hc0
          have hd : d ≠ 0 := by omega
          rw [Int.zero_mul, Int.zero_mul, Int.zero_mul] at e1 e2 e3
          rcases hk0 with q | q | q
          · have := Int.mul_ne_zero hd q; omega
          · have := Int.mul_ne_zero hd q; omega
          · have := Int.mul_ne_zero hd q; omega
        · exact .inr (.inr (.inl hc0))
      · exact .inr (.inl hb)
    · exact .inl ha
  obtain ⟨hp, hn⟩ := signs h0 eS h1 h2 h3 (by decide)
  have pc : ∀ f, pp c f = 0 := fun f => by unfold pp; rw [if_neg (by omega)]
  have pz : ∀ f, pp 0 f = 0 := fun f => by unfold pp; rw [if_neg (by omega)]
  refine ⟨mix a b c 0 p1 p2 p3 k, fun f hf => ?_, fun f q1 q2 => ?_⟩
  · have e := dep_on (f := f) e1 e2 e3
    rw [hf, Int.mul_zero] at e
    rw [mix_on, pz]
    generalize f.on p1 = f1 at *
    generalize f.on p2 = f2 at *
    generalize f.on p3 = f3 at *
    refine ⟨fun q2 q3 => ?_, fun q1 q3 => ?_, fun q1 q2 => ?_⟩
    · have := num (a := a) (b := b) (c := c) (d := 0) (f1 := f1) (f4 := 1) (by omega) hp hn q2 q3 (by decide); rw [pz] at this; omega
    · have := num (a := b) (b := a) (c := c) (d := 0) (f1 := f2) (f4 := 1) (by omega) (by omega) (by omega) q1 q3 (by decide); rw [pz] at this; omega
    · have := num (a := c) (b := a) (c := b) (d := 0) (f1 := f3) (f4 := 1) (by omega) (by omega) (by omega) q1 q2 (by decide); rw [pz] at this; omega
  · rw [mix_on, pz, pc]
    have := pp_nn (a := a) q1
    have := pp_nn (a := b) q2
    omega
/-! ### ends of a box along a direction -/
def lo (n l h : Int) : Int := if n * h < n * l then n * h else n * l
def hi (n l h : Int) : Int := if n * l < n * h then n * h else n * l
theorem lo_hi {n l h : Int} (hl : l < h) : (0 ≤ n ∧ lo n l h = n * l ∧ hi n l h = n * h) ∨ (n < 0 ∧ lo n l h = n * h ∧ hi n l h = n * l) := by
  unfold lo hi
  rcases Int.lt_trichotomy n 0 with c | c | c
  · have := Int.mul_lt_mul_of_neg_left hl c
    exact .inr ⟨c, by rw [if_pos this], by rw [if_neg (by omega)]⟩
  · subst c
    exact .inl ⟨by decide, by simp, by simp⟩
  · have := Int.mul_lt_mul_of_pos_left hl c
    exact .inl ⟨by omega, by rw [if_neg (by omega)], by rw [if_pos this]⟩
/-- the place between the ends -/
def at_ (n l h t u : Int) : Int := if 0 ≤ n then l * u + h * t else h * u + l * t
theorem at_in {n l h t u : Int} (hl : l < h) (ht : 0 < t) (hu : 0 < u) : l * (t + u) < at_ n l h t u ∧ at_ n l h t u < h * (t + u) ∧ n * at_ n l h t u = lo n l h * u + hi n l h * t := by
  have k1 := Int.mul_pos (show 0 < h - l by omega) ht
  have k2 := Int.mul_pos (show 0 < h - l by omega) hu
  unfold at_
  rcases lo_hi (n := n) hl with ⟨c, e1, e2⟩ | ⟨c, e1, e2⟩
  · rw [if_pos c, e1, e2]
    exact ⟨by grind, by grind, by grind⟩
  · rw [if_neg (by omega), e1, e2]
    exact ⟨by grind, by grind, by grind⟩
/-- a point of the plane that is inside -/
theorem plane {n1 n2 n3 l1 h1 l2 h2 l3 h3 d : Int} (g1 : l1 < h1) (g2 : l2 < h2) (g3 : l3 < h3) (hl : lo n1 l1 h1 + lo n2 l2 h2 + lo n3 l3 h3 < d) (hh : d < hi n1 l1 h1 + hi n2 l2 h2 + hi n3 l3 h3) :
    ∃ M y1 y2 y3 : Int, 0 < M ∧ (l1 * M < y1 ∧ y1 < h1 * M) ∧ (l2 * M < y2 ∧ y2 < h2 * M) ∧ (l3 * M < y3 ∧ y3 < h3 * M) ∧ n1 * y1 + n2 * y2 + n3 * y3 = d * M := by
  obtain ⟨t, ht⟩ : ∃ t, t = d - (lo n1 l1 h1 + lo n2 l2 h2 + lo n3 l3 h3) := ⟨_, rfl⟩
  obtain ⟨u, hu⟩ : ∃ u, u = hi n1 l1 h1 + hi n2 l2 h2 + hi n3 l3 h3 - d := ⟨_, rfl⟩
  obtain ⟨a1, b1, e1⟩ := at_in (n := n1) g1 (show 0 < t by omega) (show 0 < u by omega)
  obtain ⟨a2, b2, e2⟩ := at_in (n := n2) g2 (show 0 < t by omega) (show 0 < u by omega)
  obtain ⟨a3, b3, e3⟩ := at_in (n := n3) g3 (show 0 < t by omega) (show 0 < u by omega)
  refine ⟨t + u, _, _, _, by omega, ⟨a1, b1⟩, ⟨a2, b2⟩, ⟨a3, b3⟩, ?_⟩
  rw [e1, e2, e3]
  generalize lo n1 l1 h1 = L1 at *
  generalize lo n2 l2 h2 = L2 at *
  generalize lo n3 l3 h3 = L3 at *
  generalize hi n1 l1 h1 = H1 at *
  generalize hi n2 l2 h2 = H2 at *
  generalize hi n3 l3 h3 = H3 at *
  subst ht hu
  grind
theorem lo_zero {l h : Int} : lo 0 l h = 0 ∧ hi 0 l h = 0 := by unfold lo hi; simp
theorem lo_lt {n l h : Int} (hl : l < h) : lo n l h ≤ hi n l h ∧ (n ≠ 0 → lo n l h < hi n l h) := by
  rcases lo_hi (n := n) hl with ⟨c, e1, e2⟩ | ⟨c, e1, e2⟩
  · rw [e1, e2]
    refine ⟨Int.mul_le_mul_of_nonneg_left (by omega) c, fun h => Int.mul_lt_mul_of_pos_left hl (by omega)⟩
  · rw [e1, e2]
    have := Int.mul_lt_mul_of_neg_left hl c
    exact ⟨by omega, fun _ => this⟩
/-- .. of the half plane -/
theorem half {n1 n2 l1 h1 l2 h2 d : Int} (g1 : l1 < h1) (g2 : l2 < h2) (h0 : n1 ≠ 0 ∨ n2 ≠ 0) (hh : d < hi n1 l1 h1 + hi n2 l2 h2) :
    ∃ M y1 y2 : Int, 0 < M ∧ (l1 * M < y1 ∧ y1 < h1 * M) ∧ (l2 * M < y2 ∧ y2 < h2 * M) ∧ d * M ≤ n1 * y1 + n2 * y2 := by
  by_cases c : lo n1 l1 h1 + lo n2 l2 h2 < d
  · obtain ⟨M, y1, y2, y3, hM, k1, k2, k3, e⟩ := plane (n1 := n1) (n2 := n2) (n3 := 0) (l3 := 0) (h3 := 1) (d := d) g1 g2 (by decide) (by rw [lo_zero.1]; omega) (by rw [lo_zero.2]; omega)
    exact ⟨M, y1, y2, hM, k1, k2, by omega⟩
  · have q1 := lo_lt (n := n1) g1
    have q2 := lo_lt (n := n2) g2
    obtain ⟨a1, b1, e1⟩ := at_in (n := n1) g1 (show (0 : Int) < 1 by decide) (show (0 : Int) < 1 by decide)
    obtain ⟨a2, b2, e2⟩ := at_in (n := n2) g2 (show (0 : Int) < 1 by decide) (show (0 : Int) < 1 by decide)
    refine ⟨2, at_ n1 l1 h1 1 1, at_ n2 l2 h2 1 1, by decide, ⟨a1, b1⟩, ⟨a2, b2⟩, ?_⟩
    rw [e1, e2]
    omega
theorem lo_neg {n l h : Int} : lo (-n) l h = -hi n l h ∧ hi (-n) l h = -lo n l h := by
  unfold lo hi
  rw [Int.neg_mul, Int.neg_mul]
  constructor <;> split <;> split <;> omega
theorem half2 {n1 n2 l1 h1 l2 h2 d : Int} (g1 : l1 < h1) (g2 : l2 < h2) (h0 : n1 ≠ 0 ∨ n2 ≠ 0) (hh : lo n1 l1 h1 + lo n2 l2 h2 < d) :
    ∃ M y1 y2 : Int, 0 < M ∧ (l1 * M < y1 ∧ y1 < h1 * M) ∧ (l2 * M < y2 ∧ y2 < h2 * M) ∧ n1 * y1 + n2 * y2 ≤ d * M := by
  obtain ⟨M, y1, y2, hM, k1, k2, e⟩ := half (n1 := -n1) (n2 := -n2) (d := -d) g1 g2 (by omega) (by rw [lo_neg.2, lo_neg.2]; omega)
  exact ⟨M, y1, y2, hM, k1, k2, by rw [Int.neg_mul, Int.neg_mul, Int.neg_mul] at e; omega⟩
/-! ### one direction: the three points' numbers, the box's ends -/
structure Cd where
  p0 : Int
  p1 : Int
  p2 : Int
  l : Int
  h : Int
def Cd.low (X : Cd) : V := ⟨X.p0 - X.l, X.p1 - X.l, X.p2 - X.l⟩
def Cd.high (X : Cd) : V := ⟨X.h - X.p0, X.h - X.p1, X.h - X.p2⟩
def S (X : Cd) (w : V) : Prop := 0 < X.low.on w ∧ 0 < X.high.on w
def Dl (w : V) : Prop := 0 ≤ w.a ∧ 0 ≤ w.b ∧ 0 ≤ w.c
def U (X : Cd) : Prop := (X.l < X.p0 ∨ X.l < X.p1 ∨ X.l < X.p2) ∧ (X.p0 < X.h ∨ X.p1 < X.h ∨ X.p2 < X.h)
def ok2 (n1 n2 : Int) (X Y : Cd) : Prop := (lo n1 X.l X.h + lo n2 Y.l Y.h < n1 * X.p0 + n2 * Y.p0 ∨ lo n1 X.l X.h + lo n2 Y.l Y.h < n1 * X.p1 + n2 * Y.p1 ∨ lo n1 X.l X.h + lo n2 Y.l Y.h < n1 * X.p2 + n2 * Y.p2) ∧ (n1 * X.p0 + n2 * Y.p0 < hi n1 X.l X.h + hi n2 Y.l Y.h ∨ n1 * X.p1 + n2 * Y.p1 < hi n1 X.l X.h + hi n2 Y.l Y.h ∨ n1 * X.p2 + n2 * Y.p2 < hi n1 X.l X.h + hi n2 Y.l Y.h)
/-- the three edges' normals -/
def ed2 (X Y : Cd) : Prop := (X.p2 - X.p1 ≠ 0 ∨ Y.p2 - Y.p1 ≠ 0 → ok2 (-(Y.p2 - Y.p1)) (X.p2 - X.p1) X Y) ∧ (X.p0 - X.p2 ≠ 0 ∨ Y.p0 - Y.p2 ≠ 0 → ok2 (-(Y.p0 - Y.p2)) (X.p0 - X.p2) X Y) ∧ (X.p1 - X.p0 ≠ 0 ∨ Y.p1 - Y.p0 ≠ 0 → ok2 (-(Y.p1 - Y.p0)) (X.p1 - X.p0) X Y)
theorem S.sum {X : Cd} {w : V} (g : X.l < X.h) (h : S X w) : 0 < w.sum := by
  have e : X.low.on w + X.high.on w = (X.h - X.l) * w.sum := by
    unfold Cd.low Cd.high V.on V.sum
    grind
  have := h.1
  have := h.2
  exact Int.pos_of_mul_pos_right (a := X.h - X.l) (by omega) (by omega)
theorem two (x x' l h : Int) (hl : l < h) (h1 : l < x) (h2 : x' < h) : ∃ a b : Int, 0 ≤ a ∧ 0 ≤ b ∧ 0 < a * (x - l) + b * (x' - l) ∧ 0 < a * (h - x) + b * (h - x') := by
  by_cases c1 : x < h
  · exact ⟨1, 0, by decide, by decide, by omega, by omega⟩
  · by_cases c2 : l < x'
    · exact ⟨0, 1, by decide, by decide, by omega, by omega⟩
    · have k := Int.mul_pos (show 0 < x - x' by omega) (show 0 < h - l by omega)
      exact ⟨l + h - 2 * x', 2 * x - (l + h), by omega, by omega, by grind, by grind⟩
theorem one_in {X : Cd} (g : X.l < X.h) (u : U X) : ∃ w, Dl w ∧ S X w := by
  obtain ⟨p0, p1, p2, l, h⟩ := X
  obtain ⟨u1, u2⟩ := u
  dsimp only at g u1 u2
  unfold Dl S Cd.low Cd.high V.on
  dsimp only
  rcases u1 with u1 | u1 | u1 <;> rcases u2 with u2 | u2 | u2 <;> obtain ⟨a, b, h1, h2, h3, h4⟩ := two _ _ l h g u1 u2
  · exact ⟨⟨a + b, 0, 0⟩, ⟨by dsimp only; omega, Int.le_refl _, Int.le_refl _⟩, by dsimp only; grind, by dsimp only; grind⟩
  · exact ⟨⟨a, b, 0⟩, ⟨h1, h2, Int.le_refl _⟩, by dsimp only; grind, by dsimp only; grind⟩
  · exact ⟨⟨a, 0, b⟩, ⟨h1, Int.le_refl _, h2⟩, by dsimp only; grind, by dsimp only; grind⟩
  · exact ⟨⟨b, a, 0⟩, ⟨h2, h1, Int.le_refl _⟩, by dsimp only; grind, by dsimp only; grind⟩
  · exact ⟨⟨0, a + b, 0⟩, ⟨Int.le_refl _, by dsimp only; omega, Int.le_refl _⟩, by dsimp only; grind, by dsimp only; grind⟩
  · exact ⟨⟨0, a, b⟩, ⟨Int.le_refl _, h1, h2⟩, by dsimp only; grind, by dsimp only; grind⟩
  · exact ⟨⟨b, 0, a⟩, ⟨h2, Int.le_refl _, h1⟩, by dsimp only; grind, by dsimp only; grind⟩
  · exact ⟨⟨0, b, a⟩, ⟨Int.le_refl _, h2, h1⟩, by dsimp only; grind, by dsimp only; grind⟩
  · exact ⟨⟨0, 0, a + b⟩, ⟨Int.le_refl _, Int.le_refl _, by dsimp only; omega⟩, by dsimp only; grind, by dsimp only; grind⟩
/-- a direction that does not count, where the points lie on a line -/
theorem kernel {x0 x1 x2 y0 y1 y2 z0 z1 z2 : Int} (n1 : (y1 - y0) * (z2 - z0) - (z1 - z0) * (y2 - y0) = 0) (n2 : (z1 - z0) * (x2 - x0) - (x1 - x0) * (z2 - z0) = 0) (n3 : (x1 - x0) * (y2 - y0) - (y1 - y0) * (x2 - x0) = 0) :
    ∃ k : V, (k.a ≠ 0 ∨ k.b ≠ 0 ∨ k.c ≠ 0) ∧ k.sum = 0 ∧ (V.mk x0 x1 x2).on k = 0 ∧ (V.mk y0 y1 y2).on k = 0 ∧ (V.mk z0 z1 z2).on k = 0 := by
  unfold V.sum V.on
  by_cases h : (x1 - x0) * (x1 - x0) + (y1 - y0) * (y1 - y0) + (z1 - z0) * (z1 - z0) = 0
  · have sq : ∀ a : Int, 0 ≤ a * a := fun a => by
      rcases Int.le_total 0 a with c | c
      · exact Int.mul_nonneg c c
      · exact Int.mul_nonneg_of_nonpos_of_nonpos c c
    have s1 := sq (x1 - x0)
    have s2 := sq (y1 - y0)
    have s3 := sq (z1 - z0)
    have e1 : x1 - x0 = 0 := by
      have : (x1 - x0) * (x1 - x0) = 0 := by omega
      rcases Int.mul_eq_zero.mp this with q | q <;> exact q
    have e2 : y1 - y0 = 0 := by
      have : (y1 - y0) * (y1 - y0) = 0 := by omega
      rcases Int.mul_eq_zero.mp this with q | q <;> exact q
    have e3 : z1 - z0 = 0 := by
      have : (z1 - z0) * (z1 - z0) = 0 := by omega
      rcases Int.mul_eq_zero.mp this with q | q <;> exact q
    exact ⟨⟨1, -1, 0⟩, .inl (by decide), by decide, by dsimp only; omega, by dsimp only; omega, by dsimp only; omega⟩
  · refine ⟨⟨(x2 - x0) * (x1 - x0) + (y2 - y0) * (y1 - y0) + (z2 - z0) * (z1 - z0) - ((x1 - x0) * (x1 - x0) + (y1 - y0) * (y1 - y0) + (z1 - z0) * (z1 - z0)), -((x2 - x0) * (x1 - x0) + (y2 - y0) * (y1 - y0) + (z2 - z0) * (z1 - z0)), (x1 - x0) * (x1 - x0) + (y1 - y0) * (y1 - y0) + (z1 - z0) * (z1 - z0)⟩, .inr (.inr h), by dsimp only; omega, ?_, ?_, ?_⟩
    · dsimp only; grind
    · dsimp only; grind
    · dsimp only; grind
theorem low_ker {X : Cd} {k : V} (h : k.sum = 0) (e : (V.mk X.p0 X.p1 X.p2).on k = 0) : X.low.on k = 0 ∧ X.high.on k = 0 := by
  unfold V.sum at h
  unfold V.on at e
  unfold Cd.low Cd.high V.on
  exact ⟨by grind, by grind⟩
/-! ### two directions -/
/-- the side of an edge where the third point lies meets the inside of the rectangle -/
theorem base {xa ya xb yb xc yc lx hx ly hy s : Int} (gx : lx < hx) (gy : ly < hy) (es : s = (xb - xa) * (yc - ya) - (xc - xa) * (yb - ya)) (hs : s ≠ 0)
    (k1 : lo (-(yb - ya)) lx hx + lo (xb - xa) ly hy < -(yb - ya) * xa + (xb - xa) * ya ∨ lo (-(yb - ya)) lx hx + lo (xb - xa) ly hy < -(yb - ya) * xb + (xb - xa) * yb ∨ lo (-(yb - ya)) lx hx + lo (xb - xa) ly hy < -(yb - ya) * xc + (xb - xa) * yc)
    (k2 : -(yb - ya) * xa + (xb - xa) * ya < hi (-(yb - ya)) lx hx + hi (xb - xa) ly hy ∨ -(yb - ya) * xb + (xb - xa) * yb < hi (-(yb - ya)) lx hx + hi (xb - xa) ly hy ∨ -(yb - ya) * xc + (xb - xa) * yc < hi (-(yb - ya)) lx hx + hi (xb - xa) ly hy) :
    ∃ M x y : Int, 0 < M ∧ (lx * M < x ∧ x < hx * M) ∧ (ly * M < y ∧ y < hy * M) ∧ 0 ≤ s * ((xb - xa) * (y - M * ya) - (yb - ya) * (x - M * xa)) := by
  have m2 : -(yb - ya) * xb + (xb - xa) * yb = -(yb - ya) * xa + (xb - xa) * ya := by grind
  have m3 : -(yb - ya) * xc + (xb - xa) * yc = -(yb - ya) * xa + (xb - xa) * ya + s := by grind
  rw [m2, m3] at k1 k2
  have h0 : -(yb - ya) ≠ 0 ∨ xb - xa ≠ 0 := by
    by_cases c1 : yb - ya = 0
    · by_cases c2 : xb - xa = 0
      · exact absurd es (by rw [c1, c2]; simpa using hs)
      · exact .inr c2
    · exact .inl (by omega)
  rcases Int.lt_or_gt_of_ne hs with c | c
  · obtain ⟨M, x, y, hM, i1, i2, e⟩ := half2 (n1 := -(yb - ya)) (n2 := xb - xa) (d := -(yb - ya) * xa + (xb - xa) * ya) gx gy h0 (by omega)
    refine ⟨M, x, y, hM, i1, i2, ?_⟩
    have e2 : (xb - xa) * (y - M * ya) - (yb - ya) * (x - M * xa) ≤ 0 := by grind
    exact Int.mul_nonneg_of_nonpos_of_nonpos (by omega) e2
  · obtain ⟨M, x, y, hM, i1, i2, e⟩ := half (n1 := -(yb - ya)) (n2 := xb - xa) (d := -(yb - ya) * xa + (xb - xa) * ya) gx gy h0 (by omega)
    refine ⟨M, x, y, hM, i1, i2, ?_⟩
    have e2 : 0 ≤ (xb - xa) * (y - M * ya) - (yb - ya) * (x - M * xa) := by grind
    exact Int.mul_nonneg (by omega) e2
theorem sq_pos {s : Int} (h : s ≠ 0) : 0 < s * s := by
  rcases Int.lt_or_gt_of_ne h with c | c
  · exact Int.mul_pos_of_neg_of_neg c c
  · exact Int.mul_pos c c
/-- shares of a point of the plane -/
theorem shares {X Y : Cd} {s M x y : Int} (es : s = (X.p1 - X.p0) * (Y.p2 - Y.p0) - (X.p2 - X.p0) * (Y.p1 - Y.p0)) (hs : s ≠ 0) (hM : 0 < M) (i1 : X.l * M < x ∧ x < X.h * M) (i2 : Y.l * M < y ∧ y < Y.h * M) :
    S X ⟨s * ((X.p2 - X.p1) * (y - M * Y.p1) - (Y.p2 - Y.p1) * (x - M * X.p1)), s * ((X.p0 - X.p2) * (y - M * Y.p2) - (Y.p0 - Y.p2) * (x - M * X.p2)), s * ((X.p1 - X.p0) * (y - M * Y.p0) - (Y.p1 - Y.p0) * (x - M * X.p0))⟩ ∧
    S Y ⟨s * ((X.p2 - X.p1) * (y - M * Y.p1) - (Y.p2 - Y.p1) * (x - M * X.p1)), s * ((X.p0 - X.p2) * (y - M * Y.p2) - (Y.p0 - Y.p2) * (x - M * X.p2)), s * ((X.p1 - X.p0) * (y - M * Y.p0) - (Y.p1 - Y.p0) * (x - M * X.p0))⟩ := by
  have q := sq_pos hs
  obtain ⟨x0, x1, x2, lx, hx⟩ := X
  obtain ⟨y0, y1, y2, ly, hy⟩ := Y
  dsimp only at es i1 i2 ⊢
  unfold S Cd.low Cd.high V.on
  dsimp only
  have e1 : (x0 - lx) * (s * ((x2 - x1) * (y - M * y1) - (y2 - y1) * (x - M * x1))) + (x1 - lx) * (s * ((x0 - x2) * (y - M * y2) - (y0 - y2) * (x - M * x2))) + (x2 - lx) * (s * ((x1 - x0) * (y - M * y0) - (y1 - y0) * (x - M * x0))) = s * s * (x - lx * M) := by subst es; grind
  have e2 : (hx - x0) * (s * ((x2 - x1) * (y - M * y1) - (y2 - y1) * (x - M * x1))) + (hx - x1) * (s * ((x0 - x2) * (y - M * y2) - (y0 - y2) * (x - M * x2))) + (hx - x2) * (s * ((x1 - x0) * (y - M * y0) - (y1 - y0) * (x - M * x0))) = s * s * (hx * M - x) := by subst es; grind
  have e3 : (y0 - ly) * (s * ((x2 - x1) * (y - M * y1) - (y2 - y1) * (x - M * x1))) + (y1 - ly) * (s * ((x0 - x2) * (y - M * y2) - (y0 - y2) * (x - M * x2))) + (y2 - ly) * (s * ((x1 - x0) * (y - M * y0) - (y1 - y0) * (x - M * x0))) = s * s * (y - ly * M) := by subst es; grind
  have e4 : (hy - y0) * (s * ((x2 - x1) * (y - M * y1) - (y2 - y1) * (x - M * x1))) + (hy - y1) * (s * ((x0 - x2) * (y - M * y2) - (y0 - y2) * (x - M * x2))) + (hy - y2) * (s * ((x1 - x0) * (y - M * y0) - (y1 - y0) * (x - M * x0))) = s * s * (hy * M - y) := by subst es; grind
  rw [e1, e2, e3, e4]
  exact ⟨⟨Int.mul_pos q (by omega), Int.mul_pos q (by omega)⟩, Int.mul_pos q (by omega), Int.mul_pos q (by omega)⟩
/-- a point of the line -/
theorem line {xa ya xb yb lx hx ly hy : Int} (gx : lx < hx) (gy : ly < hy) (h0 : xb - xa ≠ 0 ∨ yb - ya ≠ 0)
    (k1 : lo (-(yb - ya)) lx hx + lo (xb - xa) ly hy < -(yb - ya) * xa + (xb - xa) * ya) (k2 : -(yb - ya) * xa + (xb - xa) * ya < hi (-(yb - ya)) lx hx + hi (xb - xa) ly hy) :
    ∃ u v : Int, (0 < u * (xa - lx) + v * (xb - lx) ∧ 0 < u * (hx - xa) + v * (hx - xb)) ∧ 0 < u * (ya - ly) + v * (yb - ly) ∧ 0 < u * (hy - ya) + v * (hy - yb) := by
  obtain ⟨M, x, y, z, hM, i1, i2, i3, e⟩ := plane (n1 := -(yb - ya)) (n2 := xb - xa) (n3 := 0) (l3 := 0) (h3 := 1) (d := -(yb - ya) * xa + (xb - xa) * ya) gx gy (by decide) (by rw [lo_zero.1]; omega) (by rw [lo_zero.2]; omega)
  have q : 0 < (xb - xa) * (xb - xa) + (yb - ya) * (yb - ya) := by
    rcases h0 with h | h
    · have a := sq_pos h
      have b : 0 ≤ (yb - ya) * (yb - ya) := by
        by_cases c : yb - ya = 0
        · rw [c]; decide
        · exact Int.le_of_lt (sq_pos c)
      omega
    · have a := sq_pos h
      have b : 0 ≤ (xb - xa) * (xb - xa) := by
        by_cases c : xb - xa = 0
        · rw [c]; decide
        · exact Int.le_of_lt (sq_pos c)
      omega
  obtain ⟨Q, hQ⟩ : ∃ Q, Q = (xb - xa) * (xb - xa) + (yb - ya) * (yb - ya) := ⟨_, rfl⟩
  rw [← hQ] at q
  have e1 : ((M * xb - x) * (xb - xa) + (M * yb - y) * (yb - ya)) * (xa - lx) + ((x - M * xa) * (xb - xa) + (y - M * ya) * (yb - ya)) * (xb - lx) = Q * (x - lx * M) := by subst hQ; grind
  have e2 : ((M * xb - x) * (xb - xa) + (M * yb - y) * (yb - ya)) * (hx - xa) + ((x - M * xa) * (xb - xa) + (y - M * ya) * (yb - ya)) * (hx - xb) = Q * (hx * M - x) := by subst hQ; grind
  have e3 : ((M * xb - x) * (xb - xa) + (M * yb - y) * (yb - ya)) * (ya - ly) + ((x - M * xa) * (xb - xa) + (y - M * ya) * (yb - ya)) * (yb - ly) = Q * (y - ly * M) := by subst hQ; grind
  have e4 : ((M * xb - x) * (xb - xa) + (M * yb - y) * (yb - ya)) * (hy - ya) + ((x - M * xa) * (xb - xa) + (y - M * ya) * (yb - ya)) * (hy - yb) = Q * (hy * M - y) := by subst hQ; grind
  refine ⟨(M * xb - x) * (xb - xa) + (M * yb - y) * (yb - ya), (x - M * xa) * (xb - xa) + (y - M * ya) * (yb - ya), ?_⟩
  rw [e1, e2, e3, e4]
  exact ⟨⟨Int.mul_pos q (by omega), Int.mul_pos q (by omega)⟩, Int.mul_pos q (by omega), Int.mul_pos q (by omega)⟩
theorem on_a (w : V) : (V.mk 1 0 0).on w = w.a ∧ (V.mk 0 1 0).on w = w.b ∧ (V.mk 0 0 1).on w = w.c := by
  unfold V.on
  exact ⟨by dsimp only; omega, by dsimp only; omega, by dsimp only; omega⟩
/-- four sets: two slabs, two half planes, behind a third one that all keep -/
theorem meet {X Y : Cd} {e1 e2 : V} (gx : X.l < X.h) (gy : Y.l < Y.h) {p1 p2 p3 p4 : V} (h1 : S Y p1 ∧ 0 ≤ e1.on p1 ∧ 0 ≤ e2.on p1) (h2 : S X p2 ∧ 0 ≤ e1.on p2 ∧ 0 ≤ e2.on p2) (h3 : S X p3 ∧ S Y p3 ∧ 0 ≤ e2.on p3) (h4 : S X p4 ∧ S Y p4 ∧ 0 ≤ e1.on p4) :
    ∃ q, S X q ∧ S Y q ∧ 0 ≤ e1.on q ∧ 0 ≤ e2.on q ∧ ∀ f : V, 0 ≤ f.on p1 → 0 ≤ f.on p2 → 0 ≤ f.on p3 → 0 ≤ f.on p4 → 0 ≤ f.on q := by
  obtain ⟨q, hq⟩ := radon (h1.1.sum gy) (h2.1.sum gx) (h3.1.sum gx) (h4.1.sum gx)
  exact ⟨q, ⟨(hq _).1.1 h2.1.1 h3.1.1 h4.1.1, (hq _).1.1 h2.1.2 h3.1.2 h4.1.2⟩, ⟨(hq _).1.2.1 h1.1.1 h3.2.1.1 h4.2.1.1, (hq _).1.2.1 h1.1.2 h3.2.1.2 h4.2.1.2⟩, (hq _).2.2.2.1 h1.2.1 h2.2.1 h4.2.2, (hq _).2.2.2.2 h1.2.2 h2.2.2 h3.2.2, fun f a b c d => (hq f).2.1 b c d⟩
theorem pair {X Y : Cd} (gx : X.l < X.h) (gy : Y.l < Y.h) (ux : U X) (uy : U Y) (he : ed2 X Y) : ∃ w, Dl w ∧ S X w ∧ S Y w := by
  obtain ⟨px, dx, sx⟩ := one_in gx ux
  obtain ⟨py, dy, sy⟩ := one_in gy uy
  obtain ⟨s, es⟩ : ∃ s, s = (X.p1 - X.p0) * (Y.p2 - Y.p0) - (X.p2 - X.p0) * (Y.p1 - Y.p0) := ⟨_, rfl⟩
  obtain ⟨ea, eb, ec⟩ := he
  by_cases hs : s = 0
  · -- on a line
    subst hs
    have n3 : (X.p1 - X.p0) * (Y.p2 - Y.p0) - (Y.p1 - Y.p0) * (X.p2 - X.p0) = 0 := by grind
    obtain ⟨k, hk0, hks, kx, ky, _⟩ := kernel (x0 := X.p0) (x1 := X.p1) (x2 := X.p2) (y0 := Y.p0) (y1 := Y.p1) (y2 := Y.p2) (z0 := 0) (z1 := 0) (z2 := 0) (by omega) (by omega) n3
    obtain ⟨p3, s1, s2⟩ : ∃ p3, S X p3 ∧ S Y p3 := by
      by_cases c1 : X.p1 - X.p0 ≠ 0 ∨ Y.p1 - Y.p0 ≠ 0
      · obtain ⟨k1, k2⟩ := ec c1
        have m1 : -(Y.p1 - Y.p0) * X.p1 + (X.p1 - X.p0) * Y.p1 = -(Y.p1 - Y.p0) * X.p0 + (X.p1 - X.p0) * Y.p0 := by grind
        have m2 : -(Y.p1 - Y.p0) * X.p2 + (X.p1 - X.p0) * Y.p2 = -(Y.p1 - Y.p0) * X.p0 + (X.p1 - X.p0) * Y.p0 := by grind
        rw [m1, m2] at k1 k2
        obtain ⟨u, v, ⟨a1, a2⟩, a3, a4⟩ := line gx gy c1 (by omega) (by omega)
        refine ⟨⟨u, v, 0⟩, ?_⟩
        unfold S Cd.low Cd.high V.on
        dsimp only
        exact ⟨⟨by grind, by grind⟩, by grind, by grind⟩
      · by_cases c2 : X.p2 - X.p1 ≠ 0 ∨ Y.p2 - Y.p1 ≠ 0
        · obtain ⟨k1, k2⟩ := ea c2
          have q1 : X.p1 = X.p0 := by omega
          have q2 : Y.p1 = Y.p0 := by omega
          have m1 : -(Y.p2 - Y.p1) * X.p2 + (X.p2 - X.p1) * Y.p2 = -(Y.p2 - Y.p1) * X.p1 + (X.p2 - X.p1) * Y.p1 := by grind
          rw [m1, ← q1, ← q2] at k1 k2
          obtain ⟨u, v, ⟨a1, a2⟩, a3, a4⟩ := line gx gy c2 (by omega) (by omega)
          refine ⟨⟨0, u, v⟩, ?_⟩
          unfold S Cd.low Cd.high V.on
          dsimp only
          exact ⟨⟨by grind, by grind⟩, by grind, by grind⟩
        · refine ⟨⟨1, 0, 0⟩, ?_⟩
          have q1 : X.p1 = X.p0 := by omega
          have q2 : Y.p1 = Y.p0 := by omega
          have q3 : X.p2 = X.p0 := by omega
          have q4 : Y.p2 = Y.p0 := by omega
          obtain ⟨u1, u2⟩ := ux
          obtain ⟨v1, v2⟩ := uy
          unfold S Cd.low Cd.high V.on
          dsimp only
          rw [q1, q3] at u1 u2
          rw [q2, q4] at v1 v2
          exact ⟨⟨by omega, by omega⟩, by omega, by omega⟩
    obtain ⟨q, hq, hd⟩ := radon3 (sy.sum gy) (sx.sum gx) (s1.sum gx) hks hk0
    have lx := low_ker hks kx
    have ly := low_ker hks ky
    refine ⟨q, ⟨?_, ?_, ?_⟩, ⟨(hq _ lx.1).1 sx.1 s1.1, (hq _ lx.2).1 sx.2 s1.2⟩, (hq _ ly.1).2.1 sy.1 s2.1, (hq _ ly.2).2.1 sy.2 s2.2⟩
    · have := hd ⟨1, 0, 0⟩ (by rw [(on_a _).1]; exact dy.1) (by rw [(on_a _).1]; exact dx.1)
      rwa [(on_a _).1] at this
    · have := hd ⟨0, 1, 0⟩ (by rw [(on_a _).2.1]; exact dy.2.1) (by rw [(on_a _).2.1]; exact dx.2.1)
      rwa [(on_a _).2.1] at this
    · have := hd ⟨0, 0, 1⟩ (by rw [(on_a _).2.2]; exact dy.2.2) (by rw [(on_a _).2.2]; exact dx.2.2)
      rwa [(on_a _).2.2] at this
  · have nz : (X.p2 - X.p1 ≠ 0 ∨ Y.p2 - Y.p1 ≠ 0) ∧ (X.p0 - X.p2 ≠ 0 ∨ Y.p0 - Y.p2 ≠ 0) ∧ (X.p1 - X.p0 ≠ 0 ∨ Y.p1 - Y.p0 ≠ 0) := by
      refine ⟨?_, ?_, ?_⟩
      · by_cases c1 : X.p2 - X.p1 = 0
        · by_cases c2 : Y.p2 - Y.p1 = 0
          · exact absurd (es.trans (by rw [show X.p2 = X.p1 by omega, show Y.p2 = Y.p1 by omega]; grind)) hs
          · exact .inr c2
        · exact .inl c1
      · by_cases c1 : X.p0 - X.p2 = 0
        · by_cases c2 : Y.p0 - Y.p2 = 0
          · exact absurd (es.trans (by rw [show X.p2 = X.p0 by omega, show Y.p2 = Y.p0 by omega]; grind)) hs
          · exact .inr c2
        · exact .inl c1
      · by_cases c1 : X.p1 - X.p0 = 0
        · by_cases c2 : Y.p1 - Y.p0 = 0
          · exact absurd (es.trans (by rw [show X.p1 = X.p0 by omega, show Y.p1 = Y.p0 by omega]; grind)) hs
          · exact .inr c2
        · exact .inl c1
    obtain ⟨ka1, ka2⟩ := ea nz.1
    obtain ⟨kb1, kb2⟩ := eb nz.2.1
    obtain ⟨kc1, kc2⟩ := ec nz.2.2
    obtain ⟨Ma, xa, ya, hMa, ia1, ia2, wa⟩ := base (xa := X.p1) (ya := Y.p1) (xb := X.p2) (yb := Y.p2) (xc := X.p0) (yc := Y.p0) (s := s) gx gy (by rw [es]; grind) hs (by omega) (by omega)
    obtain ⟨Mb, xb, yb, hMb, ib1, ib2, wb⟩ := base (xa := X.p2) (ya := Y.p2) (xb := X.p0) (yb := Y.p0) (xc := X.p1) (yc := Y.p1) (s := s) gx gy (by rw [es]; grind) hs (by omega) (by omega)
    obtain ⟨Mc, xc, yc, hMc, ic1, ic2, wc⟩ := base (xa := X.p0) (ya := Y.p0) (xb := X.p1) (yb := Y.p1) (xc := X.p2) (yc := Y.p2) (s := s) gx gy (by rw [es]) hs (by omega) (by omega)
    have sa := shares es hs hMa ia1 ia2
    have sb := shares es hs hMb ib1 ib2
    have sc := shares es hs hMc ic1 ic2
    have da := on_a px
    have db := on_a py
    -- with b and c, with a and c; then all
    obtain ⟨q1, x1, y1, b1, c1, f1⟩ := meet (e1 := ⟨0, 1, 0⟩) (e2 := ⟨0, 0, 1⟩) gx gy ⟨sy, by rw [db.2.1]; exact dy.2.1, by rw [db.2.2]; exact dy.2.2⟩ ⟨sx, by rw [da.2.1]; exact dx.2.1, by rw [da.2.2]; exact dx.2.2⟩ ⟨sc.1, sc.2, by rw [(on_a _).2.2]; exact wc⟩ ⟨sb.1, sb.2, by rw [(on_a _).2.1]; exact wb⟩
    obtain ⟨q2, x2, y2, a2, c2, f2⟩ := meet (e1 := ⟨1, 0, 0⟩) (e2 := ⟨0, 0, 1⟩) gx gy ⟨sy, by rw [db.1]; exact dy.1, by rw [db.2.2]; exact dy.2.2⟩ ⟨sx, by rw [da.1]; exact dx.1, by rw [da.2.2]; exact dx.2.2⟩ ⟨sc.1, sc.2, by rw [(on_a _).2.2]; exact wc⟩ ⟨sa.1, sa.2, by rw [(on_a _).1]; exact wa⟩
    obtain ⟨q3, x3, y3, a3, b3, f3⟩ := meet (e1 := ⟨1, 0, 0⟩) (e2 := ⟨0, 1, 0⟩) gx gy ⟨sy, by rw [db.1]; exact dy.1, by rw [db.2.1]; exact dy.2.1⟩ ⟨sx, by rw [da.1]; exact dx.1, by rw [da.2.1]; exact dx.2.1⟩ ⟨x1, y1, b1⟩ ⟨x2, y2, a2⟩
    have c3 := f3 ⟨0, 0, 1⟩ (by rw [db.2.2]; exact dy.2.2) (by rw [da.2.2]; exact dx.2.2) c1 c2
    rw [(on_a _).1] at a3
    rw [(on_a _).2.1] at b3
    rw [(on_a _).2.2] at c3
    exact ⟨q3, ⟨a3, b3, c3⟩, x3, y3⟩
/-! ### three directions -/
def ok3 (n1 n2 n3 : Int) (X Y Z : Cd) : Prop := (lo n1 X.l X.h + lo n2 Y.l Y.h + lo n3 Z.l Z.h < n1 * X.p0 + n2 * Y.p0 + n3 * Z.p0 ∨ lo n1 X.l X.h + lo n2 Y.l Y.h + lo n3 Z.l Z.h < n1 * X.p1 + n2 * Y.p1 + n3 * Z.p1 ∨ lo n1 X.l X.h + lo n2 Y.l Y.h + lo n3 Z.l Z.h < n1 * X.p2 + n2 * Y.p2 + n3 * Z.p2) ∧ (n1 * X.p0 + n2 * Y.p0 + n3 * Z.p0 < hi n1 X.l X.h + hi n2 Y.l Y.h + hi n3 Z.l Z.h ∨ n1 * X.p1 + n2 * Y.p1 + n3 * Z.p1 < hi n1 X.l X.h + hi n2 Y.l Y.h + hi n3 Z.l Z.h ∨ n1 * X.p2 + n2 * Y.p2 + n3 * Z.p2 < hi n1 X.l X.h + hi n2 Y.l Y.h + hi n3 Z.l Z.h)
/-- the normal -/
def nx (Y Z : Cd) : Int := (Y.p1 - Y.p0) * (Z.p2 - Z.p0) - (Z.p1 - Z.p0) * (Y.p2 - Y.p0)
theorem cram {A B C a0 a1 a2 b0 b1 b2 c0 c1 c2 w0 w1 w2 : Int} (h0 : w0 = A * (b1 * c2 - c1 * b2) + B * (c1 * a2 - a1 * c2) + C * (a1 * b2 - b1 * a2)) (h1 : w1 = A * (b2 * c0 - c2 * b0) + B * (c2 * a0 - a2 * c0) + C * (a2 * b0 - b2 * a0)) (h2 : w2 = A * (b0 * c1 - c0 * b1) + B * (c0 * a1 - a0 * c1) + C * (a0 * b1 - b0 * a1))
    (hd : a0 * (b1 * c2 - c1 * b2) + b0 * (c1 * a2 - a1 * c2) + c0 * (a1 * b2 - b1 * a2) = 0) : w0 * a0 + w1 * a1 + w2 * a2 = 0 ∧ w0 * b0 + w1 * b1 + w2 * b2 = 0 ∧ w0 * c0 + w1 * c1 + w2 * c2 = 0 := by
  have e1 : w0 * a0 + w1 * a1 + w2 * a2 = (a0 * (b1 * c2 - c1 * b2) + b0 * (c1 * a2 - a1 * c2) + c0 * (a1 * b2 - b1 * a2)) * A := by subst h0 h1 h2; grind
  have e2 : w0 * b0 + w1 * b1 + w2 * b2 = (a0 * (b1 * c2 - c1 * b2) + b0 * (c1 * a2 - a1 * c2) + c0 * (a1 * b2 - b1 * a2)) * B := by subst h0 h1 h2; grind
  have e3 : w0 * c0 + w1 * c1 + w2 * c2 = (a0 * (b1 * c2 - c1 * b2) + b0 * (c1 * a2 - a1 * c2) + c0 * (a1 * b2 - b1 * a2)) * C := by subst h0 h1 h2; grind
  rw [e1, e2, e3, hd]
  exact ⟨Int.zero_mul _, Int.zero_mul _, Int.zero_mul _⟩
theorem lift {X : Cd} {w : V} {M x W a0 a1 a2 : Int} (hM : 0 < M) (hW : 0 < W) (i : X.l * M < x ∧ x < X.h * M) (h0 : a0 = M * X.p0 - x) (h1 : a1 = M * X.p1 - x) (h2 : a2 = M * X.p2 - x) (e : w.a * a0 + w.b * a1 + w.c * a2 = 0) (hs : w.a + w.b + w.c = W) : S X w := by
  have e1 : M * X.low.on w = W * (x - X.l * M) := by
    unfold Cd.low V.on
    subst hs h0 h1 h2
    dsimp only
    grind
  have e2 : M * X.high.on w = W * (X.h * M - x) := by
    unfold Cd.high V.on
    subst hs h0 h1 h2
    dsimp only
    grind
  have q1 := Int.mul_pos hW (show 0 < x - X.l * M by omega)
  have q2 := Int.mul_pos hW (show 0 < X.h * M - x by omega)
  exact ⟨Int.pos_of_mul_pos_right (a := M) (by omega) (by omega), Int.pos_of_mul_pos_right (a := M) (by omega) (by omega)⟩
theorem inside {X Y Z : Cd} {A B C M x y z : Int} (hM : 0 < M) (q : 0 < A * A + B * B + C * C) (hA : A = (Y.p1 - Y.p0) * (Z.p2 - Z.p0) - (Z.p1 - Z.p0) * (Y.p2 - Y.p0)) (hB : B = (Z.p1 - Z.p0) * (X.p2 - X.p0) - (X.p1 - X.p0) * (Z.p2 - Z.p0)) (hC : C = (X.p1 - X.p0) * (Y.p2 - Y.p0) - (Y.p1 - Y.p0) * (X.p2 - X.p0))
    (e : A * x + B * y + C * z = (A * X.p0 + B * Y.p0 + C * Z.p0) * M) (i1 : X.l * M < x ∧ x < X.h * M) (i2 : Y.l * M < y ∧ y < Y.h * M) (i3 : Z.l * M < z ∧ z < Z.h * M) : ∃ p, S X p ∧ S Y p ∧ S Z p := by
  obtain ⟨a0, h1⟩ : ∃ a, a = M * X.p0 - x := ⟨_, rfl⟩
  obtain ⟨a1, h2⟩ : ∃ a, a = M * X.p1 - x := ⟨_, rfl⟩
  obtain ⟨a2, h3⟩ : ∃ a, a = M * X.p2 - x := ⟨_, rfl⟩
  obtain ⟨b0, h4⟩ : ∃ a, a = M * Y.p0 - y := ⟨_, rfl⟩
  obtain ⟨b1, h5⟩ : ∃ a, a = M * Y.p1 - y := ⟨_, rfl⟩
  obtain ⟨b2, h6⟩ : ∃ a, a = M * Y.p2 - y := ⟨_, rfl⟩
  obtain ⟨c0, h7⟩ : ∃ a, a = M * Z.p0 - z := ⟨_, rfl⟩
  obtain ⟨c1, h8⟩ : ∃ a, a = M * Z.p1 - z := ⟨_, rfl⟩
  obtain ⟨c2, h9⟩ : ∃ a, a = M * Z.p2 - z := ⟨_, rfl⟩
  have kA : M * M * A = (b1 - b0) * (c2 - c0) - (c1 - c0) * (b2 - b0) := by subst hA h4 h5 h6 h7 h8 h9; grind
  have kB : M * M * B = (c1 - c0) * (a2 - a0) - (a1 - a0) * (c2 - c0) := by subst hB h1 h2 h3 h7 h8 h9; grind
  have kC : M * M * C = (a1 - a0) * (b2 - b0) - (b1 - b0) * (a2 - a0) := by subst hC h1 h2 h3 h4 h5 h6; grind
  have e0 : A * a0 + B * b0 + C * c0 = 0 := by subst h1 h4 h7; grind
  have hd : a0 * (b1 * c2 - c1 * b2) + b0 * (c1 * a2 - a1 * c2) + c0 * (a1 * b2 - b1 * a2) = 0 := by
    have : a0 * (b1 * c2 - c1 * b2) + b0 * (c1 * a2 - a1 * c2) + c0 * (a1 * b2 - b1 * a2) = a0 * (M * M * A) + b0 * (M * M * B) + c0 * (M * M * C) := by rw [kA, kB, kC]; grind
    rw [this]
    have : a0 * (M * M * A) + b0 * (M * M * B) + c0 * (M * M * C) = M * M * (A * a0 + B * b0 + C * c0) := by grind
    rw [this, e0, Int.mul_zero]
  obtain ⟨r1, r2, r3⟩ := cram (A := A) (B := B) (C := C) rfl rfl rfl hd
  have hs : (A * (b1 * c2 - c1 * b2) + B * (c1 * a2 - a1 * c2) + C * (a1 * b2 - b1 * a2)) + (A * (b2 * c0 - c2 * b0) + B * (c2 * a0 - a2 * c0) + C * (a2 * b0 - b2 * a0)) + (A * (b0 * c1 - c0 * b1) + B * (c0 * a1 - a0 * c1) + C * (a0 * b1 - b0 * a1)) = A * (M * M * A) + B * (M * M * B) + C * (M * M * C) := by rw [kA, kB, kC]; grind
  have hW : 0 < A * (M * M * A) + B * (M * M * B) + C * (M * M * C) := by
    have : A * (M * M * A) + B * (M * M * B) + C * (M * M * C) = (M * M) * (A * A + B * B + C * C) := by grind
    rw [this]
    exact Int.mul_pos (Int.mul_pos hM hM) q
  exact ⟨⟨_, _, _⟩, lift (w := ⟨_, _, _⟩) hM hW i1 h1 h2 h3 r1 hs, lift (w := ⟨_, _, _⟩) hM hW i2 h4 h5 h6 r2 hs, lift (w := ⟨_, _, _⟩) hM hW i3 h7 h8 h9 r3 hs⟩
def T (X Y Z : Cd) : Prop := ∃ w, Dl w ∧ S X w ∧ S Y w ∧ S Z w
theorem complete {X Y Z : Cd} (gx : X.l < X.h) (gy : Y.l < Y.h) (gz : Z.l < Z.h) (ux : U X) (uy : U Y) (uz : U Z) (exy : ed2 X Y) (eyz : ed2 Y Z) (ezx : ed2 Z X) (en : nx Y Z ≠ 0 ∨ nx Z X ≠ 0 ∨ nx X Y ≠ 0 → ok3 (nx Y Z) (nx Z X) (nx X Y) X Y Z) : T X Y Z := by
  obtain ⟨pz, dz, sz1, sz2⟩ := pair gx gy ux uy exy
  obtain ⟨px, dx, sx1, sx2⟩ := pair gy gz uy uz eyz
  obtain ⟨py, dy, sy1, sy2⟩ := pair gz gx uz ux ezx
  have oz := on_a pz
  have ox := on_a px
  have oy := on_a py
  by_cases hn : nx Y Z ≠ 0 ∨ nx Z X ≠ 0 ∨ nx X Y ≠ 0
  · obtain ⟨k1, k2⟩ := en hn
    obtain ⟨A, hA⟩ : ∃ A, A = nx Y Z := ⟨_, rfl⟩
    obtain ⟨B, hB⟩ : ∃ B, B = nx Z X := ⟨_, rfl⟩
    obtain ⟨C, hC⟩ : ∃ C, C = nx X Y := ⟨_, rfl⟩
    rw [← hA, ← hB, ← hC] at hn k1 k2
    unfold nx at hA hB hC
    have m1 : A * X.p1 + B * Y.p1 + C * Z.p1 = A * X.p0 + B * Y.p0 + C * Z.p0 := by subst hA hB hC; grind
    have m2 : A * X.p2 + B * Y.p2 + C * Z.p2 = A * X.p0 + B * Y.p0 + C * Z.p0 := by subst hA hB hC; grind
    rw [m1, m2] at k1 k2
    obtain ⟨M, x, y, z, hM, i1, i2, i3, e⟩ := plane (n1 := A) (n2 := B) (n3 := C) (d := A * X.p0 + B * Y.p0 + C * Z.p0) gx gy gz (by omega) (by omega)
    have q : 0 < A * A + B * B + C * C := by
      have nn : ∀ u : Int, 0 ≤ u * u := fun u => by
        by_cases c : u = 0
        · rw [c]; decide
        · exact Int.le_of_lt (sq_pos c)
      have a := nn A
      have b := nn B
      have c := nn C
      rcases hn with h | h | h
      · have := sq_pos h; omega
      · have := sq_pos h; omega
      · have := sq_pos h; omega
    obtain ⟨p, s1, s2, s3⟩ : ∃ p, S X p ∧ S Y p ∧ S Z p := inside hM q hA hB hC e i1 i2 i3
    obtain ⟨q, hq⟩ := radon (sx1.sum gy) (sy1.sum gz) (sz1.sum gx) (s1.sum gx)
    refine ⟨q, ⟨?_, ?_, ?_⟩, ⟨(hq _).1.1 sy2.1 sz1.1 s1.1, (hq _).1.1 sy2.2 sz1.2 s1.2⟩, ⟨(hq _).1.2.1 sx1.1 sz2.1 s2.1, (hq _).1.2.1 sx1.2 sz2.2 s2.2⟩, (hq _).1.2.2.1 sx2.1 sy1.1 s3.1, (hq _).1.2.2.1 sx2.2 sy1.2 s3.2⟩
    · have := (hq ⟨1, 0, 0⟩).2.2.2.2 (by rw [ox.1]; exact dx.1) (by rw [oy.1]; exact dy.1) (by rw [oz.1]; exact dz.1)
      rwa [(on_a _).1] at this
    · have := (hq ⟨0, 1, 0⟩).2.2.2.2 (by rw [ox.2.1]; exact dx.2.1) (by rw [oy.2.1]; exact dy.2.1) (by rw [oz.2.1]; exact dz.2.1)
      rwa [(on_a _).2.1] at this
    · have := (hq ⟨0, 0, 1⟩).2.2.2.2 (by rw [ox.2.2]; exact dx.2.2) (by rw [oy.2.2]; exact dy.2.2) (by rw [oz.2.2]; exact dz.2.2)
      rwa [(on_a _).2.2] at this
  · have h1 : nx Y Z = 0 := by omega
    have h2 : nx Z X = 0 := by omega
    have h3 : nx X Y = 0 := by omega
    unfold nx at h1 h2 h3
    obtain ⟨k, hk0, hks, kx, ky, kz⟩ := kernel h1 h2 h3
    have lx := low_ker hks kx
    have ly := low_ker hks ky
    have lz := low_ker hks kz
    obtain ⟨q, hq, hd⟩ := radon3 (sx1.sum gy) (sy1.sum gz) (sz1.sum gx) hks hk0
    refine ⟨q, ⟨?_, ?_, ?_⟩, ⟨(hq _ lx.1).1 sy2.1 sz1.1, (hq _ lx.2).1 sy2.2 sz1.2⟩, ⟨(hq _ ly.1).2.1 sx1.1 sz2.1, (hq _ ly.2).2.1 sx1.2 sz2.2⟩, (hq _ lz.1).2.2 sx2.1 sy1.1, (hq _ lz.2).2.2 sx2.2 sy1.2⟩
    · have := hd ⟨1, 0, 0⟩ (by rw [ox.1]; exact dx.1) (by rw [oy.1]; exact dy.1)
      rwa [(on_a _).1] at this
    · have := hd ⟨0, 1, 0⟩ (by rw [ox.2.1]; exact dx.2.1) (by rw [oy.2.1]; exact dy.2.1)
      rwa [(on_a _).2.1] at this
    · have := hd ⟨0, 0, 1⟩ (by rw [ox.2.2]; exact dx.2.2) (by rw [oy.2.2]; exact dy.2.2)
      rwa [(on_a _).2.2] at this
end Sat

set_option Elab.async false
set_option linter.all false
set_option maxRecDepth 100000
set_option maxHeartbeats 2000000
namespace Sat
theorem Dl.sum {w : V} (d : Dl w) : 0 ≤ w.sum := by
  obtain ⟨d1, d2, d3⟩ := d
  unfold V.sum
  omega
theorem low_high (X : Cd) (w : V) : X.low.on w + X.high.on w = (X.h - X.l) * w.sum := by
  unfold Cd.low Cd.high V.on V.sum
  grind
theorem S.open_ {X : Cd} {w : V} (d : Dl w) (h : S X w) : X.l < X.h ∧ 0 < w.sum := by
  have e := low_high X w
  have := h.1
  have := h.2
  have hs := d.sum
  by_cases c : X.l < X.h
  · exact ⟨c, h.sum c⟩
  · have := Int.mul_nonpos_of_nonpos_of_nonneg (show X.h - X.l ≤ 0 by omega) hs
    omega
def wt (X : Cd) (w : V) : Int := w.a * X.p0 + w.b * X.p1 + w.c * X.p2
theorem side {X : Cd} {w : V} (g : X.l < X.h) (h : S X w) (n : Int) : (0 ≤ n * wt X w - lo n X.l X.h * w.sum ∧ 0 ≤ hi n X.l X.h * w.sum - n * wt X w) ∧ (n ≠ 0 → 0 < n * wt X w - lo n X.l X.h * w.sum ∧ 0 < hi n X.l X.h * w.sum - n * wt X w) := by
  have e1 : wt X w - X.l * w.sum = X.low.on w := by
    unfold Cd.low V.on V.sum wt
    grind
  have e2 : X.h * w.sum - wt X w = X.high.on w := by
    unfold Cd.high V.on V.sum wt
    grind
  have h1 : 0 < wt X w - X.l * w.sum := by rw [e1]; exact h.1
  have h2 : 0 < X.h * w.sum - wt X w := by rw [e2]; exact h.2
  rcases lo_hi (n := n) g with ⟨c, f1, f2⟩ | ⟨c, f1, f2⟩
  · rw [f1, f2]
    have k1 : n * wt X w - n * X.l * w.sum = n * (wt X w - X.l * w.sum) := by grind
    have k2 : n * X.h * w.sum - n * wt X w = n * (X.h * w.sum - wt X w) := by grind
    rw [k1, k2]
    exact ⟨⟨Int.mul_nonneg c (by omega), Int.mul_nonneg c (by omega)⟩, fun q => ⟨Int.mul_pos (by omega) h1, Int.mul_pos (by omega) h2⟩⟩
  · rw [f1, f2]
    have k1 : n * wt X w - n * X.h * w.sum = -n * (X.h * w.sum - wt X w) := by grind
    have k2 : n * X.l * w.sum - n * wt X w = -n * (wt X w - X.l * w.sum) := by grind
    rw [k1, k2]
    have a := Int.mul_pos (show 0 < -n by omega) h1
    have b := Int.mul_pos (show 0 < -n by omega) h2
    exact ⟨⟨by omega, by omega⟩, fun q => ⟨b, a⟩⟩
theorem sound {X Y Z : Cd} (t : T X Y Z) {n1 n2 n3 : Int} (hn : n1 ≠ 0 ∨ n2 ≠ 0 ∨ n3 ≠ 0) : ok3 n1 n2 n3 X Y Z := by
  obtain ⟨w, d, sx, sy, sz⟩ := t
  obtain ⟨gx, hW⟩ := sx.open_ d
  obtain ⟨gy, _⟩ := sy.open_ d
  obtain ⟨gz, _⟩ := sz.open_ d
  obtain ⟨⟨x1, x2⟩, x3⟩ := side gx sx n1
  obtain ⟨⟨y1, y2⟩, y3⟩ := side gy sy n2
  obtain ⟨⟨z1, z2⟩, z3⟩ := side gz sz n3
  obtain ⟨d1, d2, d3⟩ := d
  obtain ⟨L, hL⟩ : ∃ L, L = lo n1 X.l X.h + lo n2 Y.l Y.h + lo n3 Z.l Z.h := ⟨_, rfl⟩
  obtain ⟨H, hH⟩ : ∃ H, H = hi n1 X.l X.h + hi n2 Y.l Y.h + hi n3 Z.l Z.h := ⟨_, rfl⟩
  have eL : n1 * wt X w + n2 * wt Y w + n3 * wt Z w - L * w.sum = (n1 * wt X w - lo n1 X.l X.h * w.sum) + (n2 * wt Y w - lo n2 Y.l Y.h * w.sum) + (n3 * wt Z w - lo n3 Z.l Z.h * w.sum) := by subst hL; grind
  have eH : H * w.sum - (n1 * wt X w + n2 * wt Y w + n3 * wt Z w) = (hi n1 X.l X.h * w.sum - n1 * wt X w) + (hi n2 Y.l Y.h * w.sum - n2 * wt Y w) + (hi n3 Z.l Z.h * w.sum - n3 * wt Z w) := by subst hH; grind
  have pL : 0 < n1 * wt X w + n2 * wt Y w + n3 * wt Z w - L * w.sum := by
    rw [eL]
    rcases hn with h | h | h
    · have := x3 h; omega
    · have := y3 h; omega
    · have := z3 h; omega
  have pH : 0 < H * w.sum - (n1 * wt X w + n2 * wt Y w + n3 * wt Z w) := by
    rw [eH]
    rcases hn with h | h | h
    · have := x3 h; omega
    · have := y3 h; omega
    · have := z3 h; omega
  have fL : n1 * wt X w + n2 * wt Y w + n3 * wt Z w - L * w.sum = w.a * (n1 * X.p0 + n2 * Y.p0 + n3 * Z.p0 - L) + w.b * (n1 * X.p1 + n2 * Y.p1 + n3 * Z.p1 - L) + w.c * (n1 * X.p2 + n2 * Y.p2 + n3 * Z.p2 - L) := by
    unfold wt V.sum
    grind
  have fH : H * w.sum - (n1 * wt X w + n2 * wt Y w + n3 * wt Z w) = w.a * (H - (n1 * X.p0 + n2 * Y.p0 + n3 * Z.p0)) + w.b * (H - (n1 * X.p1 + n2 * Y.p1 + n3 * Z.p1)) + w.c * (H - (n1 * X.p2 + n2 * Y.p2 + n3 * Z.p2)) := by
    unfold wt V.sum
    grind
  rw [fL] at pL
  rw [fH] at pH
  unfold ok3
  rw [← hL, ← hH]
  constructor
  · by_cases c0 : L < n1 * X.p0 + n2 * Y.p0 + n3 * Z.p0
    · exact .inl c0
    · by_cases c1 : L < n1 * X.p1 + n2 * Y.p1 + n3 * Z.p1
      · exact .inr (.inl c1)
      · by_cases c2 : L < n1 * X.p2 + n2 * Y.p2 + n3 * Z.p2
        · exact .inr (.inr c2)
        · have k0 := Int.mul_nonpos_of_nonneg_of_nonpos d1 (show n1 * X.p0 + n2 * Y.p0 + n3 * Z.p0 - L ≤ 0 by omega)
          have k1 := Int.mul_nonpos_of_nonneg_of_nonpos d2 (show n1 * X.p1 + n2 * Y.p1 + n3 * Z.p1 - L ≤ 0 by omega)
          have k2 := Int.mul_nonpos_of_nonneg_of_nonpos d3 (show n1 * X.p2 + n2 * Y.p2 + n3 * Z.p2 - L ≤ 0 by omega)
          omega
  · by_cases c0 : n1 * X.p0 + n2 * Y.p0 + n3 * Z.p0 < H
    · exact .inl c0
    · by_cases c1 : n1 * X.p1 + n2 * Y.p1 + n3 * Z.p1 < H
      · exact .inr (.inl c1)
      · by_cases c2 : n1 * X.p2 + n2 * Y.p2 + n3 * Z.p2 < H
        · exact .inr (.inr c2)
        · have k0 := Int.mul_nonpos_of_nonneg_of_nonpos d1 (show H - (n1 * X.p0 + n2 * Y.p0 + n3 * Z.p0) ≤ 0 by omega)
          have k1 := Int.mul_nonpos_of_nonneg_of_nonpos d2 (show H - (n1 * X.p1 + n2 * Y.p1 + n3 * Z.p1) ≤ 0 by omega)
          have k2 := Int.mul_nonpos_of_nonneg_of_nonpos d3 (show H - (n1 * X.p2 + n2 * Y.p2 + n3 * Z.p2) ≤ 0 by omega)
          omega
/-! ### the axes, as the program has them -/
abbrev A3 := Int × Int × Int
def edges (X Y Z : Cd) : List A3 := [(X.p0 - X.p2, Y.p0 - Y.p2, Z.p0 - Z.p2), (X.p1 - X.p0, Y.p1 - Y.p0, Z.p1 - Z.p0), (X.p2 - X.p1, Y.p2 - Y.p1, Z.p2 - Z.p1)]
def axL (X Y Z : Cd) : List A3 := [(1, 0, 0), (0, 1, 0), (0, 0, 1), (nx Y Z, nx Z X, nx X Y)] ++ (edges X Y Z).map (fun e => (0, -e.2.2, e.2.1)) ++ (edges X Y Z).map (fun e => (e.2.2, 0, -e.1)) ++ (edges X Y Z).map (fun e => (-e.2.1, e.1, 0))
def nz (a : A3) : Prop := a.1 ≠ 0 ∨ a.2.1 ≠ 0 ∨ a.2.2 ≠ 0
def Touch (X Y Z : Cd) : Prop := (X.l < X.h ∧ Y.l < Y.h ∧ Z.l < Z.h) ∧ ∀ a ∈ axL X Y Z, nz a → ok3 a.1 a.2.1 a.2.2 X Y Z
theorem one_lo {l h : Int} (g : l < h) : lo 1 l h = l ∧ hi 1 l h = h := by
  unfold lo hi
  rw [Int.one_mul, Int.one_mul]
  exact ⟨by rw [if_neg (by omega)], by rw [if_pos g]⟩
theorem touch_iff (X Y Z : Cd) : Touch X Y Z ↔ T X Y Z := by
  constructor
  · rintro ⟨⟨gx, gy, gz⟩, h⟩
    have m : ∀ a, a ∈ axL X Y Z → nz a → ok3 a.1 a.2.1 a.2.2 X Y Z := h
    have mem : ∀ e ∈ edges X Y Z, (0, -e.2.2, e.2.1) ∈ axL X Y Z ∧ (e.2.2, 0, -e.1) ∈ axL X Y Z ∧ (-e.2.1, e.1, 0) ∈ axL X Y Z := fun e he => by
      unfold axL
      refine ⟨?_, ?_, ?_⟩
      · exact List.mem_append_left _ (List.mem_append_left _ (List.mem_append_right _ (List.mem_map.mpr ⟨e, he, rfl⟩)))
      · exact List.mem_append_left _ (List.mem_append_right _ (List.mem_map.mpr ⟨e, he, rfl⟩))
      · exact List.mem_append_right _ (List.mem_map.mpr ⟨e, he, rfl⟩)
    have e0 : (X.p0 - X.p2, Y.p0 - Y.p2, Z.p0 - Z.p2) ∈ edges X Y Z := by unfold edges; simp
    have e1 : (X.p1 - X.p0, Y.p1 - Y.p0, Z.p1 - Z.p0) ∈ edges X Y Z := by unfold edges; simp
    have e2 : (X.p2 - X.p1, Y.p2 - Y.p1, Z.p2 - Z.p1) ∈ edges X Y Z := by unfold edges; simp
    have u1 := m (1, 0, 0) (by unfold axL; simp) (.inl (by decide))
    have u2 := m (0, 1, 0) (by unfold axL; simp) (.inr (.inl (by decide)))
    have u3 := m (0, 0, 1) (by unfold axL; simp) (.inr (.inr (by decide)))
    have un := m (nx Y Z, nx Z X, nx X Y) (by unfold axL; simp)
    have k1 : ∀ n1 n2 : Int, (n1, n2, 0) ∈ axL X Y Z → n1 ≠ 0 ∨ n2 ≠ 0 → ok2 n1 n2 X Y := fun n1 n2 hm q => by
      have q : ok3 n1 n2 0 X Y Z := m _ hm (by unfold nz; dsimp only; omega)
      unfold ok3 at q
      unfold ok2
      rw [lo_zero.1, lo_zero.2] at q
      simpa using q
    have k2 : ∀ n1 n2 : Int, (0, n1, n2) ∈ axL X Y Z → n1 ≠ 0 ∨ n2 ≠ 0 → ok2 n1 n2 Y Z := fun n1 n2 hm q => by
      have q : ok3 0 n1 n2 X Y Z := m _ hm (by unfold nz; dsimp only; omega)
      unfold ok3 at q
      unfold ok2
      rw [lo_zero.1, lo_zero.2] at q
      simpa using q
    have k3 : ∀ n1 n2 : Int, (n2, 0, n1) ∈ axL X Y Z → n1 ≠ 0 ∨ n2 ≠ 0 → ok2 n1 n2 Z X := fun n1 n2 hm q => by
      have q : ok3 n2 0 n1 X Y Z := m _ hm (by unfold nz; dsimp only; omega)
      unfold ok3 at q
      unfold ok2
      rw [lo_zero.1, lo_zero.2] at q
      simp only [Int.zero_mul, Int.add_zero] at q
      rw [Int.add_comm (lo n1 Z.l Z.h), Int.add_comm (hi n1 Z.l Z.h), Int.add_comm (n1 * Z.p0), Int.add_comm (n1 * Z.p1), Int.add_comm (n1 * Z.p2)]
      exact q
    have fn : ∀ {n1 n2 : Int}, n2 ≠ 0 ∨ n1 ≠ 0 → -n1 ≠ 0 ∨ n2 ≠ 0 := fun h => by omega
    refine complete gx gy gz ?_ ?_ ?_ ?_ ?_ ?_ un
    · unfold ok3 at u1
      rw [(one_lo gx).1, (one_lo gx).2, lo_zero.1, lo_zero.1, lo_zero.2, lo_zero.2] at u1
      unfold U
      simpa using u1
    · unfold ok3 at u2
      rw [(one_lo gy).1, (one_lo gy).2, lo_zero.1, lo_zero.1, lo_zero.2, lo_zero.2] at u2
      unfold U
      simpa using u2
    · unfold ok3 at u3
      rw [(one_lo gz).1, (one_lo gz).2, lo_zero.1, lo_zero.1, lo_zero.2, lo_zero.2] at u3
      unfold U
      simpa using u3
    · exact ⟨fun c => k1 (-(Y.p2 - Y.p1)) (X.p2 - X.p1) (mem _ e2).2.2 (fn c), fun c => k1 (-(Y.p0 - Y.p2)) (X.p0 - X.p2) (mem _ e0).2.2 (fn c), fun c => k1 (-(Y.p1 - Y.p0)) (X.p1 - X.p0) (mem _ e1).2.2 (fn c)⟩
    · exact ⟨fun c => k2 (-(Z.p2 - Z.p1)) (Y.p2 - Y.p1) (mem _ e2).1 (fn c), fun c => k2 (-(Z.p0 - Z.p2)) (Y.p0 - Y.p2) (mem _ e0).1 (fn c), fun c => k2 (-(Z.p1 - Z.p0)) (Y.p1 - Y.p0) (mem _ e1).1 (fn c)⟩
    · exact ⟨fun c => k3 (-(X.p2 - X.p1)) (Z.p2 - Z.p1) (mem _ e2).2.1 (fn c), fun c => k3 (-(X.p0 - X.p2)) (Z.p0 - Z.p2) (mem _ e0).2.1 (fn c), fun c => k3 (-(X.p1 - X.p0)) (Z.p1 - Z.p0) (mem _ e1).2.1 (fn c)⟩
  · intro t
    have t2 := t
    obtain ⟨w, d, sx, sy, sz⟩ := t2
    exact ⟨⟨(sx.open_ d).1, (sy.open_ d).1, (sz.open_ d).1⟩, fun a _ ha => sound t ha⟩
/-! ### what does not change it -/
theorem T.rot {X Y Z : Cd} : T X Y Z → T Y Z X := fun ⟨w, d, a, b, c⟩ => ⟨w, d, b, c, a⟩
theorem T.swap {X Y Z : Cd} : T X Y Z → T Y X Z := fun ⟨w, d, a, b, c⟩ => ⟨w, d, b, a, c⟩
/-- one direction moved, mirrored, made larger -/
def Cd.mv (X : Cd) (a s : Int) : Cd := ⟨a * X.p0 + s, a * X.p1 + s, a * X.p2 + s, if 0 ≤ a then a * X.l + s else a * X.h + s, if 0 ≤ a then a * X.h + s else a * X.l + s⟩
theorem S.mv {X : Cd} {w : V} {a : Int} (s : Int) (ha : a ≠ 0) : S (X.mv a s) w ↔ S X w := by
  unfold S
  by_cases c : 0 ≤ a
  · have e1 : (X.mv a s).low.on w = a * X.low.on w := by
      unfold Cd.mv Cd.low V.on
      rw [if_pos c]
      dsimp only
      grind
    have e2 : (X.mv a s).high.on w = a * X.high.on w := by
      unfold Cd.mv Cd.high V.on
      rw [if_pos c]
      dsimp only
      grind
    rw [e1, e2]
    have k : ∀ f : Int, 0 < a * f ↔ 0 < f := fun f => ⟨fun q => Int.pos_of_mul_pos_right (a := a) q (by omega), fun q => Int.mul_pos (by omega) q⟩
    rw [k, k]
  · have e1 : (X.mv a s).low.on w = -a * X.high.on w := by
      unfold Cd.mv Cd.low Cd.high V.on
      rw [if_neg c]
      dsimp only
      grind
    have e2 : (X.mv a s).high.on w = -a * X.low.on w := by
      unfold Cd.mv Cd.low Cd.high V.on
      rw [if_neg c]
      dsimp only
      grind
    rw [e1, e2]
    have k : ∀ f : Int, 0 < -a * f ↔ 0 < f := fun f => ⟨fun q => Int.pos_of_mul_pos_right (a := -a) q (by omega), fun q => Int.mul_pos (by omega) q⟩
    rw [k, k]
    exact ⟨fun q => ⟨q.2, q.1⟩, fun q => ⟨q.2, q.1⟩⟩
theorem T.mv {X Y Z : Cd} {a b c s t u : Int} (ha : a ≠ 0) (hb : b ≠ 0) (hc : c ≠ 0) : T (X.mv a s) (Y.mv b t) (Z.mv c u) ↔ T X Y Z := by
  unfold T
  constructor
  · rintro ⟨w, d, q1, q2, q3⟩
    exact ⟨w, d, (S.mv s ha).mp q1, (S.mv t hb).mp q2, (S.mv u hc).mp q3⟩
  · rintro ⟨w, d, q1, q2, q3⟩
    exact ⟨w, d, (S.mv s ha).mpr q1, (S.mv t hb).mpr q2, (S.mv u hc).mpr q3⟩
/-- the points in another order -/
def Cd.r (X : Cd) : Cd := ⟨X.p1, X.p2, X.p0, X.l, X.h⟩
def Cd.x (X : Cd) : Cd := ⟨X.p1, X.p0, X.p2, X.l, X.h⟩
theorem T.r {X Y Z : Cd} : T X.r Y.r Z.r ↔ T X Y Z := by
  unfold T Dl S Cd.r Cd.low Cd.high V.on
  constructor
  · rintro ⟨⟨a, b, c⟩, ⟨d1, d2, d3⟩, ⟨a1, a2⟩, ⟨b1, b2⟩, c1, c2⟩
    dsimp only at *
    exact ⟨⟨c, a, b⟩, ⟨d3, d1, d2⟩, ⟨by dsimp only; omega, by dsimp only; omega⟩, ⟨by dsimp only; omega, by dsimp only; omega⟩, by dsimp only; omega, by dsimp only; omega⟩
  · rintro ⟨⟨a, b, c⟩, ⟨d1, d2, d3⟩, ⟨a1, a2⟩, ⟨b1, b2⟩, c1, c2⟩
    dsimp only at *
    exact ⟨⟨b, c, a⟩, ⟨d2, d3, d1⟩, ⟨by dsimp only; omega, by dsimp only; omega⟩, ⟨by dsimp only; omega, by dsimp only; omega⟩, by dsimp only; omega, by dsimp only; omega⟩
theorem T.x {X Y Z : Cd} : T X.x Y.x Z.x ↔ T X Y Z := by
  unfold T Dl S Cd.x Cd.low Cd.high V.on
  constructor
  · rintro ⟨⟨a, b, c⟩, ⟨d1, d2, d3⟩, ⟨a1, a2⟩, ⟨b1, b2⟩, c1, c2⟩
    dsimp only at *
    exact ⟨⟨b, a, c⟩, ⟨d2, d1, d3⟩, ⟨by dsimp only; omega, by dsimp only; omega⟩, ⟨by dsimp only; omega, by dsimp only; omega⟩, by dsimp only; omega, by dsimp only; omega⟩
  · rintro ⟨⟨a, b, c⟩, ⟨d1, d2, d3⟩, ⟨a1, a2⟩, ⟨b1, b2⟩, c1, c2⟩
    dsimp only at *
    exact ⟨⟨b, a, c⟩, ⟨d2, d1, d3⟩, ⟨by dsimp only; omega, by dsimp only; omega⟩, ⟨by dsimp only; omega, by dsimp only; omega⟩, by dsimp only; omega, by dsimp only; omega⟩
/-- a larger box -/
def Cd.wide (X : Cd) (m n : Int) : Cd := ⟨X.p0, X.p1, X.p2, X.l - m, X.h + n⟩
theorem S.wide {X : Cd} {w : V} {m n : Int} (hm : 0 ≤ m) (hn : 0 ≤ n) (d : Dl w) (h : S X w) : S (X.wide m n) w := by
  have hs := d.sum
  have k1 := Int.mul_nonneg hm hs
  have k2 := Int.mul_nonneg hn hs
  have e1 : (X.wide m n).low.on w = X.low.on w + m * w.sum := by
    unfold Cd.wide Cd.low V.on V.sum
    dsimp only
    grind
  have e2 : (X.wide m n).high.on w = X.high.on w + n * w.sum := by
    unfold Cd.wide Cd.high V.on V.sum
    dsimp only
    grind
  unfold S at *
  rw [e1, e2]
  omega
/-- an edge cut at its middle -/
def Cd.one (X : Cd) : Cd := ⟨2 * X.p0, X.p0 + X.p1, 2 * X.p2, 2 * X.l, 2 * X.h⟩
def Cd.two (X : Cd) : Cd := ⟨X.p0 + X.p1, 2 * X.p1, 2 * X.p2, 2 * X.l, 2 * X.h⟩
theorem S.one {X : Cd} {a b c : Int} : S X.one ⟨a, b, c⟩ ↔ S X ⟨2 * a + b, b, 2 * c⟩ := by
  have e1 : X.one.low.on ⟨a, b, c⟩ = X.low.on ⟨2 * a + b, b, 2 * c⟩ := by
    unfold Cd.one Cd.low V.on
    dsimp only
    grind
  have e2 : X.one.high.on ⟨a, b, c⟩ = X.high.on ⟨2 * a + b, b, 2 * c⟩ := by
    unfold Cd.one Cd.high V.on
    dsimp only
    grind
  unfold S
  rw [e1, e2]
theorem S.two {X : Cd} {a b c : Int} : S X.two ⟨a, b, c⟩ ↔ S X ⟨a, a + 2 * b, 2 * c⟩ := by
  have e1 : X.two.low.on ⟨a, b, c⟩ = X.low.on ⟨a, a + 2 * b, 2 * c⟩ := by
    unfold Cd.two Cd.low V.on
    dsimp only
    grind
  have e2 : X.two.high.on ⟨a, b, c⟩ = X.high.on ⟨a, a + 2 * b, 2 * c⟩ := by
    unfold Cd.two Cd.high V.on
    dsimp only
    grind
  unfold S
  rw [e1, e2]
theorem S.dbl {X : Cd} {a b c : Int} : S X ⟨2 * a, 2 * b, 2 * c⟩ ↔ S X ⟨a, b, c⟩ := by
  have e : ∀ f : V, f.on ⟨2 * a, 2 * b, 2 * c⟩ = 2 * f.on ⟨a, b, c⟩ := fun f => by
    unfold V.on
    dsimp only
    grind
  unfold S
  rw [e, e]
  omega
theorem T.cut {X Y Z : Cd} : T X.one Y.one Z.one ∨ T X.two Y.two Z.two ↔ T X Y Z := by
  constructor
  · rintro (⟨⟨a, b, c⟩, ⟨d1, d2, d3⟩, q1, q2, q3⟩ | ⟨⟨a, b, c⟩, ⟨d1, d2, d3⟩, q1, q2, q3⟩)
    · dsimp only at d1 d2 d3
      exact ⟨_, ⟨by dsimp only; omega, d2, by dsimp only; omega⟩, S.one.mp q1, S.one.mp q2, S.one.mp q3⟩
    · dsimp only at d1 d2 d3
      exact ⟨_, ⟨d1, by dsimp only; omega, by dsimp only; omega⟩, S.two.mp q1, S.two.mp q2, S.two.mp q3⟩
  · rintro ⟨⟨a, b, c⟩, ⟨d1, d2, d3⟩, q1, q2, q3⟩
    dsimp only at d1 d2 d3
    by_cases h : b ≤ a
    · have k : ∀ X : Cd, S X ⟨a, b, c⟩ → S X.one ⟨a - b, 2 * b, c⟩ := fun X q => by
        have e : 2 * (a - b) + 2 * b = 2 * a := by omega
        rw [S.one, e]
        exact S.dbl.mpr q
      exact .inl ⟨⟨a - b, 2 * b, c⟩, ⟨by dsimp only; omega, by dsimp only; omega, d3⟩, k _ q1, k _ q2, k _ q3⟩
    · have k : ∀ X : Cd, S X ⟨a, b, c⟩ → S X.two ⟨2 * a, b - a, c⟩ := fun X q => by
        have e : 2 * a + 2 * (b - a) = 2 * b := by omega
        rw [S.two, e]
        exact S.dbl.mpr q
      exact .inr ⟨⟨2 * a, b - a, c⟩, ⟨by dsimp only; omega, by dsimp only; omega, d3⟩, k _ q1, k _ q2, k _ q3⟩
end Sat

set_option Elab.async false
set_option linter.all false
set_option maxRecDepth 100000
set_option maxHeartbeats 2000000
namespace K24
open PySem L2 Mi Sat
local macro_rules | `(tactic| wtm_at "leaf") => `(tactic| first
  | ((with_reducible apply lf_cont); rfl)
  | (with_reducible exact atI_zero)
  | ((with_reducible apply lf_dcont); rfl)
  | ((with_reducible apply lf_dcS); rfl)
  | ((with_reducible apply lf_dgetC); rfl)
  | ((with_reducible apply lf_keyD); rfl)
  | ((with_reducible apply lf_isDict); rfl)
  | ((with_reducible apply lf_dkeys); rfl)
  | ((with_reducible apply lf_atI); first | rfl | exact atI_zero)
  | ((with_reducible apply lf_get); rfl)
  | ((with_reducible apply lf_pure); rfl)
  | ((with_reducible apply lf_setAt); rfl)
  | ((with_reducible apply lf_tru); rfl)
  | ((with_reducible apply lf_lt); exact Nat.le_of_ble_eq_true rfl)
  | ((with_reducible apply lf_pos); first | assumption | decide | omega)
  | ((with_reducible apply lf_le); decide)
  | ((with_reducible apply lf_isNm); rfl)
  | ((with_reducible apply lf_notNm); rfl)
  | ((with_reducible apply lf_noScr); rfl)
  | ((with_reducible apply lf_noKt); rfl)
  | (with_reducible exact eqP_int)
  | (with_reducible exact lf_abs)
  | (with_reducible exact lf_int1)
  | (with_reducible exact lf_max2)
  | (with_reducible exact lf_min2)
  | (with_reducible apply lf_len)
  | (with_reducible apply lf_tuple)
  | (with_reducible apply lf_isi)
  | (with_reducible exact eqP_t3)
  | (with_reducible exact eqP_bl)
  | (with_reducible exact eqP_t2)
  | (with_reducible exact kb_tt)
  | (with_reducible exact kb_bb)
  | (with_reducible exact kb_ii)
  | (with_reducible exact kb_it)
  | (with_reducible exact kb_ib)
  | (with_reducible exact kb_bi)
  | (with_reducible exact kb_ll)
  | (with_reducible exact kb_ss)
  | ((with_reducible apply lf_isiK); with_unfolding_all decide)
  | ((with_reducible apply lf_ty); rfl)
  | ((with_reducible apply lf_bd); exact ⟨by decide, by decide⟩)
  | ((with_reducible apply lf_allO); rfl)
  | ((with_reducible apply lf_app); first | ((repeat (first | (with_reducible exact la_nil) | (with_reducible apply la_cons))); done) | rfl)
  | ((with_reducible apply lf_set); first | ((repeat (first | (with_reducible exact sl_z) | (with_reducible apply sl_s))); done) | rfl)
  | ((with_reducible apply lf_slots); first | ((repeat (first | (with_reducible exact se_nil) | (with_reducible apply se_cons) | (with_reducible apply ss_cons) | (with_reducible apply ss_nil))); done) | rfl)
  | (with_reducible exact sw_nil)
  | (with_reducible apply sw_cons)
  | ((with_reducible apply lf_wipe); rfl)
  | (with_reducible exact sr_nil)
  | (with_reducible apply sr_cons)
  | ((with_reducible apply lf_rest); rfl)
  | (with_reducible apply gr_nm)
  | (with_reducible exact gr_nil)
  | (with_reducible apply gr_cons)
  | (with_reducible apply gr_tp)
  | (with_reducible apply gr_tl)
  | ((with_reducible apply lf_run); first | (simp only [G.nm, G.tp, G.tl, G.runs, List.set_cons_succ, List.set_cons_zero]; done) | rfl)
  | ((with_reducible apply lf_len0); rfl)
  )
local macro_rules | `(tactic| wtm_at "sm") => `(tactic| first
  | ((with_reducible apply lf_smn); with_reducible assumption)
  | (with_reducible exact Smn.nat (by decide))
  | (with_reducible apply Smn.mul)
  | (with_reducible apply Smn.add)
  | (with_reducible apply Smn.sub)
  | (with_reducible apply Smn.neg)
  | (with_reducible apply Smn.ite)
  | (with_reducible apply Smn.div _ (by omega))
  | (with_reducible apply Smn.mod _ (by omega))
  | ((with_reducible refine Smn.of ?_); omega))
local macro_rules | `(tactic| wtm_at "nl") => `(tactic| first
  | (with_reducible apply ev_rng1)
  | (with_reducible apply ev_rng2)
  | (with_reducible apply nl_nil)
  | ((with_reducible apply lf_nl); first | apply nl_tN | apply nl_nil)
  | ((with_reducible apply lf_ok); rfl)
  | ((with_reducible apply lf_itm); rfl))
local macro_rules | `(tactic| wtm_at "e1") => `(tactic| first
  | (with_reducible intro _)
  | (with_reducible exact ev_c)
  | (with_reducible exact ev_args0)
  | (with_reducible exact ev_part0)
  | ((with_reducible apply ev_var); rfl)
  | ((with_reducible apply ev_varO); rfl)
  | (with_reducible apply ev_ix)
  | (with_reducible apply ev_dix)
  | (with_reducible apply ev_din)
  | (with_reducible apply ev_dnotIn)
  | (with_reducible apply ev_get1)
  | (with_reducible apply ev_get2)
  | (with_reducible apply ev_shrN)
  | (with_reducible apply ev_frzD)
  | (with_reducible exact ev_pairs0)
  | (with_reducible apply ev_pairs)
  | (with_reducible apply ev_dispK)
  | (with_reducible apply ev_sortedD)
  | (with_reducible apply ev_rev)
  | (with_reducible apply ev_cutT)
  | (with_reducible apply ev_catT)
  | (with_reducible apply ev_seqK)
  | (with_reducible apply ev_add)
  | (with_reducible apply ev_sub)
  | (with_reducible apply ev_mul)
  | (with_reducible apply ev_div)
  | (with_reducible apply ev_mod)
  | (with_reducible apply ev_neg)
  | (with_reducible apply ev_lt)
  | (with_reducible apply ev_le)
  | (with_reducible apply ev_gt)
  | (with_reducible apply ev_ge)
  | (with_reducible apply ev_eq)
  | (with_reducible apply ev_ne)
  | (with_reducible apply ev_isN)
  | (with_reducible apply ev_notN)
  | (with_reducible apply ev_args)
  | (with_reducible apply ev_tup)
  | (with_reducible apply ev_frz)
  | (with_reducible apply ev_shr)
  | (with_reducible apply ev_disp)
  | (with_reducible apply ev_blt1)
  | (with_reducible apply ev_blt2)
  | (with_reducible apply ev_un)
  | (with_reducible apply ev_and)
  | (with_reducible apply ev_or)
  | (with_reducible apply ev_not)
  | (with_reducible apply tv)
  | (with_reducible apply tt_tru)
  | (with_reducible apply tt_and)
  | (with_reducible apply tt_or)
  | (with_reducible apply tt_not)
  | (with_reducible apply ev_ofSeq)
  | (with_reducible apply ev_part)
  | (with_reducible apply ev_slice)
  | (with_reducible apply ev_compN)
  | (with_reducible exact ev_true)
  | wtm_at "nl"
  | (with_reducible apply ev_chain)
  | (with_reducible apply ev_call)
  | wtm_at "call"
  | wtm_at "leaf"
  | wtm_at "sm")
local macro_rules | `(tactic| wtm_at "ev") => `(tactic| repeat' wtm_at "e1")
local macro_rules | `(tactic| wtm_at "dec") => `(tactic| decide)
local macro_rules | `(tactic| wtm_at "s1") => `(tactic| first
  | (with_reducible exact cs_skip)
  | (with_reducible apply cs_setN)
  | (with_reducible apply cs_dputO)
  | (with_reducible apply cs_ownD)
  | (with_reducible apply cs_frzD)
  | (with_reducible apply cs_retD)
  | (with_reducible apply cs_ownN)
  | (with_reducible apply cs_frzN)
  | (with_reducible apply cs_augN)
  | (with_reducible apply ev_chgN)
  | (with_reducible apply cs_setIxN)
  | (with_reducible apply cs_drop)
  | (with_reducible apply cs_asg)
  | (with_reducible apply cs_ret)
  | wtm_at "e1")
local macro_rules | `(tactic| wtm_at "st") => `(tactic| repeat' wtm_at "s1")
local macro_rules | `(tactic| wtm_at "dz") => `(tactic| (with_reducible apply Dz.nx; · wtm_at "st"))
local macro_rules | `(tactic| wtm_at "di") => `(tactic| (with_reducible apply Dz.ite; · wtm_at "ev"))
def tD (a : A3) : D := .tup [.int a.1, .int a.2.1, .int a.2.2]
def VB (n : Nat) (a : A3) : Prop := Smn n a.1 ∧ Smn n a.2.1 ∧ Smn n a.2.2
theorem ix0 {m : M D} {a : A3} {z z1 : Z} (h : m z = some (tD a, z1)) : E.op O.ix m (E.c (.int 0)) z = some (.int a.1, z1) := ev_ix h ev_c rfl rfl
theorem ix1 {m : M D} {a : A3} {z z1 : Z} (h : m z = some (tD a, z1)) : E.op O.ix m (E.c (.int 1)) z = some (.int a.2.1, z1) := ev_ix h ev_c rfl rfl
theorem ix2 {m : M D} {a : A3} {z z1 : Z} (h : m z = some (tD a, z1)) : E.op O.ix m (E.c (.int 2)) z = some (.int a.2.2, z1) := ev_ix h ev_c rfl rfl
def dt (a b : A3) : Int := a.1 * b.1 + a.2.1 * b.2.1 + a.2.2 * b.2.2
theorem dot_ev {a b : A3} (ha : VB 400 a) (hb : VB 400 b) (h : List D) : m_dot [tD a, tD b] h = some (.int (dt a b), h) := by
  refine Dz.fnE rfl ?_
  unfold b_dot
  exact Dz.of (cs_ret (ev_add (ev_add (ev_mul (ix0 (ev_var rfl)) (ix0 (ev_var rfl)) ha.1 hb.1 (by decide) (by decide)) (ev_mul (ix1 (ev_var rfl)) (ix1 (ev_var rfl)) ha.2.1 hb.2.1 (by decide) (by decide))) (ev_mul (ix2 (ev_var rfl)) (ix2 (ev_var rfl)) ha.2.2 hb.2.2 (by decide) (by decide))) rfl) ⟨rfl, rfl⟩
def cr (a b : A3) : A3 := (a.2.1 * b.2.2 - a.2.2 * b.2.1, a.2.2 * b.1 - a.1 * b.2.2, a.1 * b.2.1 - a.2.1 * b.1)
theorem cr_vb {a b : A3} {n m : Nat} (ha : VB n a) (hb : VB m b) : VB (n + m + 1) (cr a b) := by
  have k : ∀ {i j k l : Int}, Smn n i → Smn m j → Smn n k → Smn m l → Smn (n + m + 1) (i * j - k * l) := fun h1 h2 h3 h4 => by
    have := Smn.sub (Smn.mul h1 h2) (Smn.mul h3 h4)
    rwa [Nat.max_self] at this
  exact ⟨k ha.2.1 hb.2.2 ha.2.2 hb.2.1, k ha.2.2 hb.1 ha.1 hb.2.2, k ha.1 hb.2.1 ha.2.1 hb.1⟩
theorem cross_ev {a b : A3} (ha : VB 400 a) (hb : VB 400 b) (h : List D) : m_cross [tD a, tD b] h = some (tD (cr a b), h) := by
  refine Dz.fnE rfl ?_
  unfold b_cross
  refine Dz.nx (z1 := ⟨[.val (tD a), .val (tD b), .val (.int (cr a b).1), .no, .no], h⟩) (cs_setN (ev_sub (ev_mul (ix1 (ev_var rfl)) (ix2 (ev_var rfl)) ha.2.1 hb.2.2 (by decide) (by decide)) (ev_mul (ix2 (ev_var rfl)) (ix1 (ev_var rfl)) ha.2.2 hb.2.1 (by decide) (by decide))) rfl rfl) ?_
  refine Dz.nx (z1 := ⟨[.val (tD a), .val (tD b), .val (.int (cr a b).1), .val (.int (cr a b).2.1), .no], h⟩) (cs_setN (ev_sub (ev_mul (ix2 (ev_var rfl)) (ix0 (ev_var rfl)) ha.2.2 hb.1 (by decide) (by decide)) (ev_mul (ix0 (ev_var rfl)) (ix2 (ev_var rfl)) ha.1 hb.2.2 (by decide) (by decide))) rfl rfl) ?_
  refine Dz.nx (z1 := ⟨[.val (tD a), .val (tD b), .val (.int (cr a b).1), .val (.int (cr a b).2.1), .val (.int (cr a b).2.2)], h⟩) (cs_setN (ev_sub (ev_mul (ix0 (ev_var rfl)) (ix1 (ev_var rfl)) ha.1 hb.2.1 (by decide) (by decide)) (ev_mul (ix1 (ev_var rfl)) (ix0 (ev_var rfl)) ha.2.1 hb.1 (by decide) (by decide))) rfl rfl) ?_
  exact Dz.of (cs_ret (ev_tup (ev_args (ev_var rfl) (ev_args (ev_var rfl) (ev_args (ev_var rfl) ev_args0 rfl) rfl) rfl)) rfl) ⟨rfl, rfl⟩
def sb (a b : A3) : A3 := (a.1 - b.1, a.2.1 - b.2.1, a.2.2 - b.2.2)
theorem sb_vb {a b : A3} {n : Nat} (ha : VB n a) (hb : VB n b) : VB (n + 1) (sb a b) := by
  have k : ∀ {i j : Int}, Smn n i → Smn n j → Smn (n + 1) (i - j) := fun h1 h2 => by
    have := Smn.sub h1 h2
    rwa [Nat.max_self] at this
  exact ⟨k ha.1 hb.1, k ha.2.1 hb.2.1, k ha.2.2 hb.2.2⟩
theorem less_ev (a b : A3) (h : List D) : m_less [tD a, tD b] h = some (tD (sb a b), h) := by
  refine Dz.fnE rfl ?_
  unfold b_less
  exact Dz.of (cs_ret (ev_tup (ev_args (ev_sub (ix0 (ev_var rfl)) (ix0 (ev_var rfl))) (ev_args (ev_sub (ix1 (ev_var rfl)) (ix1 (ev_var rfl))) (ev_args (ev_sub (ix2 (ev_var rfl)) (ix2 (ev_var rfl))) ev_args0 rfl) rfl) rfl)) rfl) ⟨rfl, rfl⟩
/-! ### a box, a triangle, by directions -/
def bxD (X Y W : Cd) : D := .tup [.int X.l, .int Y.l, .int W.l, .int X.h, .int Y.h, .int W.h]
def q0 (X Y W : Cd) : A3 := (X.p0, Y.p0, W.p0)
def q1 (X Y W : Cd) : A3 := (X.p1, Y.p1, W.p1)
def q2 (X Y W : Cd) : A3 := (X.p2, Y.p2, W.p2)
def trD (X Y W : Cd) : D := .tup [tD (q0 X Y W), tD (q1 X Y W), tD (q2 X Y W)]
structure CB (X : Cd) : Prop where
  a : Smn 64 X.p0
  b : Smn 64 X.p1
  c : Smn 64 X.p2
  l : Smn 64 X.l
  h : Smn 64 X.h
def uns : List A3 := [(1, 0, 0), (0, 1, 0), (0, 0, 1)]
def axP (X Y W : Cd) : List A3 := uns ++ [cr (sb (q0 X Y W) (q2 X Y W)) (sb (q1 X Y W) (q0 X Y W))] ++ (edges X Y W).map (cr (1, 0, 0)) ++ (edges X Y W).map (cr (0, 1, 0)) ++ (edges X Y W).map (cr (0, 0, 1))
theorem axP_eq (X Y W : Cd) : axP X Y W = axL X Y W := by
  have e0 : cr (sb (q0 X Y W) (q2 X Y W)) (sb (q1 X Y W) (q0 X Y W)) = (nx Y W, nx W X, nx X Y) := by
    unfold cr sb q0 q1 q2 nx
    dsimp only
    rw [Prod.mk.injEq, Prod.mk.injEq]
    exact ⟨by grind, by grind, by grind⟩
  have e1 : ∀ e : A3, cr (1, 0, 0) e = (0, -e.2.2, e.2.1) := fun e => by
    unfold cr
    dsimp only
    rw [Prod.mk.injEq, Prod.mk.injEq]
    exact ⟨by omega, by omega, by omega⟩
  have e2 : ∀ e : A3, cr (0, 1, 0) e = (e.2.2, 0, -e.1) := fun e => by
    unfold cr
    dsimp only
    rw [Prod.mk.injEq, Prod.mk.injEq]
    exact ⟨by omega, by omega, by omega⟩
  have e3 : ∀ e : A3, cr (0, 0, 1) e = (-e.2.1, e.1, 0) := fun e => by
    unfold cr
    dsimp only
    rw [Prod.mk.injEq, Prod.mk.injEq]
    exact ⟨by omega, by omega, by omega⟩
  unfold axP axL uns
  rw [e0, funext e1, funext e2, funext e3]
  rfl
def nzB (a : A3) : Bool := !(decide (a.1 = 0) && (decide (a.2.1 = 0) && decide (a.2.2 = 0)))
theorem nzB_iff (a : A3) : nzB a = true ↔ nz a := by
  unfold nzB nz
  simp
theorem unit_vb {a : A3} (h : a ∈ uns) : VB 2 a := by
  unfold uns at h
  have k : Smn 2 (1 : Int) ∧ Smn 2 (0 : Int) := ⟨by unfold Smn; decide, by unfold Smn; decide⟩
  rcases List.mem_cons.mp h with rfl | h
  · exact ⟨k.1, k.2, k.2⟩
  rcases List.mem_cons.mp h with rfl | h
  · exact ⟨k.2, k.1, k.2⟩
  rw [List.mem_singleton] at h
  subst h
  exact ⟨k.2, k.2, k.1⟩
theorem VB.mono {n m : Nat} {a : A3} (h : VB n a) (hn : n ≤ m) : VB m a := ⟨h.1.mono hn, h.2.1.mono hn, h.2.2.mono hn⟩
theorem edge_vb {X Y W : Cd} (bx : CB X) (by_ : CB Y) (bz : CB W) {e : A3} (h : e ∈ edges X Y W) : VB 65 e := by
  have v0 : VB 64 (q0 X Y W) := ⟨bx.a, by_.a, bz.a⟩
  have v1 : VB 64 (q1 X Y W) := ⟨bx.b, by_.b, bz.b⟩
  have v2 : VB 64 (q2 X Y W) := ⟨bx.c, by_.c, bz.c⟩
  unfold edges at h
  rcases List.mem_cons.mp h with rfl | h
  · exact sb_vb v0 v2
  rcases List.mem_cons.mp h with rfl | h
  · exact sb_vb v1 v0
  rw [List.mem_singleton] at h
  subst h
  exact sb_vb v2 v1
theorem ax_vb {X Y W : Cd} (bx : CB X) (by_ : CB Y) (bz : CB W) {a : A3} (h : a ∈ axP X Y W) : VB 131 a := by
  unfold axP at h
  have ed : ∀ u ∈ uns, a ∈ (edges X Y W).map (cr u) → VB 131 a := fun u hu ha => by
    obtain ⟨e, he, rfl⟩ := List.mem_map.mp ha
    exact (cr_vb (unit_vb hu) (edge_vb bx by_ bz he)).mono (by decide)
  rcases List.mem_append.mp h with h | h
  · rcases List.mem_append.mp h with h | h
    · rcases List.mem_append.mp h with h | h
      · rcases List.mem_append.mp h with h | h
        · exact (unit_vb h).mono (by decide)
        · rw [List.mem_singleton] at h
          subst h
          exact (cr_vb (edge_vb bx by_ bz (e := sb (q0 X Y W) (q2 X Y W)) (by unfold edges; exact List.mem_cons_self)) (edge_vb bx by_ bz (e := sb (q1 X Y W) (q0 X Y W)) (by unfold edges; exact List.mem_cons_of_mem _ List.mem_cons_self))).mono (by decide)
      · exact ed _ (by unfold uns; simp) h
    · exact ed _ (by unfold uns; simp) h
  · exact ed _ (by unfold uns; simp) h
def xS (X Y W : Cd) (h : List D) (f : List A3) (X5 : Sl) : Z := ⟨[.val (trD X Y W), .val (.lst (uns.map tD)), .val (.lst ((edges X Y W).map tD)), .no, .own (.lst (f.map tD)), X5, .no, .no], h⟩
theorem axes_ev {X Y W : Cd} (bx : CB X) (by_ : CB Y) (bz : CB W) (h : List D) : m_axes_of [trD X Y W] h = some (.lst (((axP X Y W).filter nzB).map tD), h) := by
  refine Dz.fnE rfl ?_
  unfold b_axes_of
  refine Dz.nx (z1 := ⟨[.val (trD X Y W), .val (.lst (uns.map tD)), .no, .no, .no, .no, .no, .no], h⟩) (cs_setN (ev_frz (ev_disp (ev_args (ev_tup (ev_args ev_c (ev_args ev_c (ev_args ev_c ev_args0 rfl) rfl) rfl)) (ev_args (ev_tup (ev_args ev_c (ev_args ev_c (ev_args ev_c ev_args0 rfl) rfl) rfl)) (ev_args (ev_tup (ev_args ev_c (ev_args ev_c (ev_args ev_c ev_args0 rfl) rfl) rfl)) ev_args0 rfl) rfl) rfl))) rfl rfl) ?_
  refine Dz.nx (z1 := ⟨[.val (trD X Y W), .val (.lst (uns.map tD)), .val (.lst ((edges X Y W).map tD)), .no, .no, .no, .no, .no], h⟩) ?_ ?_
  · unfold cp_axes_of1
    have one : ∀ (k : Int) (a b : A3), atI [tD (q0 X Y W), tD (q1 X Y W), tD (q2 X Y W)] k = some (tD a) → atI [tD (q0 X Y W), tD (q1 X Y W), tD (q2 X Y W)] (k - 1) = some (tD b) → (E.call m_less [(E.op O.ix (E.var 0) (E.var 3)), (E.op O.ix (E.var 0) (E.op O.sub (E.var 3) (E.c (.int 1))))]) ⟨[.val (trD X Y W), .val (.lst (uns.map tD)), .no, .val (.int k), .no, .no, .no, .no], h⟩ = some (tD (sb a b), ⟨[.val (trD X Y W), .val (.lst (uns.map tD)), .no, .val (.int k), .no, .no, .no, .no], h⟩) := fun k a b h1 h2 =>
      ev_call (ev_args (ev_ix (ev_var (n := 0) (d := trD X Y W) rfl) (ev_var rfl) rfl h1) (ev_args (ev_ix (ev_var (n := 0) (d := trD X Y W) rfl) (ev_sub (ev_var rfl) ev_c) rfl h2) ev_args0 rfl) rfl) (less_ev a b h)
    exact cs_setN (ev_frz (ev_comp3 rng3 rfl rfl (gr_nm rfl) (one 0 _ _ rfl rfl) rfl rfl (gr_nm rfl) (one 1 _ _ rfl rfl) rfl rfl (gr_nm rfl) (one 2 _ _ rfl rfl) rfl rfl rfl)) rfl rfl
  have ve : VB 65 (sb (q0 X Y W) (q2 X Y W)) := edge_vb bx by_ bz (by unfold edges; exact List.mem_cons_self)
  have ve1 : VB 65 (sb (q1 X Y W) (q0 X Y W)) := edge_vb bx by_ bz (by unfold edges; exact List.mem_cons_of_mem _ List.mem_cons_self)
  refine Dz.nx (z1 := xS X Y W h (uns ++ [cr (sb (q0 X Y W) (q2 X Y W)) (sb (q1 X Y W) (q0 X Y W))]) .no) ?_ ?_
  · exact cs_ownN (ev_cat (x := .lst (uns.map tD)) (y := .lst [tD (cr (sb (q0 X Y W) (q2 X Y W)) (sb (q1 X Y W) (q0 X Y W)))]) (ev_var rfl) (ev_frz (ev_disp (ev_args (ev_call (ev_args (ev_ix (d := tD (sb (q0 X Y W) (q2 X Y W))) (ev_var rfl) ev_c rfl rfl) (ev_args (ev_ix (d := tD (sb (q1 X Y W) (q0 X Y W))) (ev_var rfl) ev_c rfl rfl) ev_args0 rfl) rfl) (cross_ev (ve.mono (by decide)) (ve1.mono (by decide)) h)) ev_args0 rfl))) rfl rfl rfl rfl (by show 3 + 1 < szl; unfold szl; omega)) (Nat.le_of_ble_eq_true rfl) rfl
  refine Dz.thn (R := fun z => ∃ X5, z = xS X Y W h (axP X Y W) X5) ?_ ?_
  · have step : ∀ (u : A3) (f : List A3), u ∈ uns → f.length ≤ 20 → Dz lp_axes_of2 (xS X Y W h f (.val (tD u))) fun fl z => fl = .nx ∧ z = xS X Y W h (f ++ (edges X Y W).map (cr u)) (.val (tD u)) := fun u f hu hf => by
      unfold lp_axes_of2
      have one : ∀ e ∈ edges X Y W, (E.call m_cross [(E.var 5), (E.var 6)]) ⟨[.val (trD X Y W), .val (.lst (uns.map tD)), .val (.lst ((edges X Y W).map tD)), .no, .own (.lst (f.map tD)), .val (tD u), .val (tD e), .no], h⟩ = some (tD (cr u e), ⟨[.val (trD X Y W), .val (.lst (uns.map tD)), .val (.lst ((edges X Y W).map tD)), .no, .own (.lst (f.map tD)), .val (tD u), .val (tD e), .no], h⟩) := fun e he =>
        ev_call (ev_args (ev_var rfl) (ev_args (ev_var rfl) ev_args0 rfl) rfl) (cross_ev ((unit_vb hu).mono (by decide)) ((edge_vb bx by_ bz he).mono (by decide)) h)
      have c := ev_comp3 (g := G.nm 6) (vs := [6]) (z := xS X Y W h f (.val (tD u))) (mi := I.seqC (E.var 2)) (te := E.call m_cross [(E.var 5), (E.var 6)]) (ev_seqC (x := .lst ((edges X Y W).map tD)) (ev_var rfl) rfl) rfl rfl (gr_nm rfl) (one (X.p0 - X.p2, Y.p0 - Y.p2, W.p0 - W.p2) (by unfold edges; exact List.mem_cons_self)) rfl rfl (gr_nm rfl) (one (X.p1 - X.p0, Y.p1 - Y.p0, W.p1 - W.p0) (by unfold edges; exact List.mem_cons_of_mem _ List.mem_cons_self)) rfl rfl (gr_nm rfl) (one (X.p2 - X.p1, Y.p2 - Y.p1, W.p2 - W.p1) (by unfold edges; exact List.mem_cons_of_mem _ (List.mem_cons_of_mem _ List.mem_cons_self))) rfl rfl rfl
      have ex : U.extend (f.map tD) [.lst [tD (cr u (X.p0 - X.p2, Y.p0 - Y.p2, W.p0 - W.p2)), tD (cr u (X.p1 - X.p0, Y.p1 - Y.p0, W.p1 - W.p0)), tD (cr u (X.p2 - X.p1, Y.p2 - Y.p1, W.p2 - W.p1))]] = some (.non, (f ++ (edges X Y W).map (cr u)).map tD) := by
        unfold U.extend
        dsimp only
        rw [if_pos (by rw [List.length_map]; show f.length + 3 < szl; unfold szl; omega), List.map_append]
        rfl
      exact Dz.of (cs_drop (ev_chgN (n := 4) (ev_varO rfl) rfl (ev_args (ev_frz c) ev_args0 rfl) rfl ex rfl)) ⟨rfl, rfl⟩
    refine Dz.each (ev_seq (xs := uns.map tD) (ev_var rfl) rfl) (fun k z => ∃ X5, z = xS X Y W h (match k with | 0 => uns ++ [cr (sb (q0 X Y W) (q2 X Y W)) (sb (q1 X Y W) (q0 X Y W))] | 1 => uns ++ [cr (sb (q0 X Y W) (q2 X Y W)) (sb (q1 X Y W) (q0 X Y W))] ++ (edges X Y W).map (cr (1, 0, 0)) | 2 => uns ++ [cr (sb (q0 X Y W) (q2 X Y W)) (sb (q1 X Y W) (q0 X Y W))] ++ (edges X Y W).map (cr (1, 0, 0)) ++ (edges X Y W).map (cr (0, 1, 0)) | _ => axP X Y W) X5) ⟨_, rfl⟩ ?_ ?_
    · rintro k d z hd ⟨X5, rfl⟩
      have hk : k < 3 := (List.getElem?_eq_some_iff.mp hd).1
      rcases (by omega : k = 0 ∨ k = 1 ∨ k = 2) with rfl | rfl | rfl
      · cases (Option.some.inj hd)
        exact ⟨_, gr_nm rfl, (step (1, 0, 0) _ (by unfold uns; simp) (by show 4 ≤ 20; decide)).imp fun f z ⟨h1, h2⟩ => by subst h1 h2; exact ⟨_, rfl⟩⟩
      · cases (Option.some.inj hd)
        exact ⟨_, gr_nm rfl, (step (0, 1, 0) _ (by unfold uns; simp) (by show 7 ≤ 20; decide)).imp fun f z ⟨h1, h2⟩ => by subst h1 h2; exact ⟨_, rfl⟩⟩
      · cases (Option.some.inj hd)
        exact ⟨_, gr_nm rfl, (step (0, 0, 1) _ (by unfold uns; simp) (by show 10 ≤ 20; decide)).imp fun f z ⟨h1, h2⟩ => by subst h1 h2; exact ⟨_, rfl⟩⟩
    · rintro z ⟨X5, rfl⟩
      exact ⟨rfl, X5, rfl⟩
  · rintro z ⟨X5, rfl⟩
    unfold cp_axes_of3
    have hl : (axP X Y W).length = 13 := rfl
    have hc : cont (.own 4) ⟨[.val (trD X Y W), .val (.lst (uns.map tD)), .val (.lst ((edges X Y W).map tD)), .no, .own (.lst ((axP X Y W).map tD)), X5, .no, .no], h⟩ = some (false, (axP X Y W).map tD) := rfl
    have e := ev_compO (z := xS X Y W h (axP X Y W) X5) (mi := I.seqC (E.var 4)) (xs := (axP X Y W).map tD) (o := .own 4) (g := G.nm 7) (vs := [7]) (tt := T.val (E.op O.ne (E.var 7) (E.tup [(E.c (.int 0)), (E.c (.int 0)), (E.c (.int 0))]))) (te := E.var 7) (fun d => match d with | .tup [.int a, .int b, .int c] => nzB (a, b, c) | _ => false) (fun d => d) (ev_seqCO (n := 4) (ev_varO rfl) hc) (by rw [List.length_map, hl]; unfold szl; omega) rfl rfl (ok_own hc) (fun d hd => by
      obtain ⟨a, ha, rfl⟩ := List.mem_map.mp hd
      exact ⟨_, _, ⟨[.val (trD X Y W), .val (.lst (uns.map tD)), .val (.lst ((edges X Y W).map tD)), .no, .own (.lst ((axP X Y W).map tD)), X5, .no, .val (tD a)], h⟩, gr_nm rfl, tv (ev_ne (ev_var rfl) (ev_tup (ev_args ev_c (ev_args ev_c (ev_args ev_c ev_args0 rfl) rfl) rfl)) eqP_t3), fun _ => ⟨ev_var rfl, rfl⟩, fun _ => rfl, fun _ => rfl⟩) rfl
    have ex : (((axP X Y W).map tD).filter (fun d => match d with | .tup [.int a, .int b, .int c] => nzB (a, b, c) | _ => false)).map (fun d => d) = ((axP X Y W).filter nzB).map tD := by
      rw [List.map_id', List.filter_map]
      rfl
    rw [ex] at e
    exact Dz.of (cs_ret (ev_frz e) rfl) ⟨rfl, rfl⟩
end K24

set_option Elab.async false
set_option linter.all false
set_option maxRecDepth 100000
set_option maxHeartbeats 2000000
namespace K24
open PySem L2 Mi Sat
local macro_rules | `(tactic| wtm_at "leaf") => `(tactic| first
  | ((with_reducible apply lf_cont); rfl)
  | (with_reducible exact atI_zero)
  | ((with_reducible apply lf_dcont); rfl)
  | ((with_reducible apply lf_dcS); rfl)
  | ((with_reducible apply lf_dgetC); rfl)
  | ((with_reducible apply lf_keyD); rfl)
  | ((with_reducible apply lf_isDict); rfl)
  | ((with_reducible apply lf_dkeys); rfl)
  | ((with_reducible apply lf_atI); first | rfl | exact atI_zero)
  | ((with_reducible apply lf_get); rfl)
  | ((with_reducible apply lf_pure); rfl)
  | ((with_reducible apply lf_setAt); rfl)
  | ((with_reducible apply lf_tru); rfl)
  | ((with_reducible apply lf_lt); exact Nat.le_of_ble_eq_true rfl)
  | ((with_reducible apply lf_pos); first | assumption | decide | omega)
  | ((with_reducible apply lf_le); decide)
  | ((with_reducible apply lf_isNm); rfl)
  | ((with_reducible apply lf_notNm); rfl)
  | ((with_reducible apply lf_noScr); rfl)
  | ((with_reducible apply lf_noKt); rfl)
  | (with_reducible exact eqP_int)
  | (with_reducible exact lf_abs)
  | (with_reducible exact lf_int1)
  | (with_reducible exact lf_max2)
  | (with_reducible exact lf_min2)
  | (with_reducible apply lf_len)
  | (with_reducible apply lf_tuple)
  | (with_reducible apply lf_isi)
  | (with_reducible exact eqP_t3)
  | (with_reducible exact eqP_bl)
  | (with_reducible exact eqP_t2)
  | (with_reducible exact kb_tt)
  | (with_reducible exact kb_bb)
  | (with_reducible exact kb_ii)
  | (with_reducible exact kb_it)
  | (with_reducible exact kb_ib)
  | (with_reducible exact kb_bi)
  | (with_reducible exact kb_ll)
  | (with_reducible exact kb_ss)
  | ((with_reducible apply lf_isiK); with_unfolding_all decide)
  | ((with_reducible apply lf_ty); rfl)
  | ((with_reducible apply lf_bd); exact ⟨by decide, by decide⟩)
  | ((with_reducible apply lf_allO); rfl)
  | ((with_reducible apply lf_app); first | ((repeat (first | (with_reducible exact la_nil) | (with_reducible apply la_cons))); done) | rfl)
  | ((with_reducible apply lf_set); first | ((repeat (first | (with_reducible exact sl_z) | (with_reducible apply sl_s))); done) | rfl)
  | ((with_reducible apply lf_slots); first | ((repeat (first | (with_reducible exact se_nil) | (with_reducible apply se_cons) | (with_reducible apply ss_cons) | (with_reducible apply ss_nil))); done) | rfl)
  | (with_reducible exact sw_nil)
  | (with_reducible apply sw_cons)
  | ((with_reducible apply lf_wipe); rfl)
  | (with_reducible exact sr_nil)
  | (with_reducible apply sr_cons)
  | ((with_reducible apply lf_rest); rfl)
  | (with_reducible apply gr_nm)
  | (with_reducible exact gr_nil)
  | (with_reducible apply gr_cons)
  | (with_reducible apply gr_tp)
  | (with_reducible apply gr_tl)
  | ((with_reducible apply lf_run); first | (simp only [G.nm, G.tp, G.tl, G.runs, List.set_cons_succ, List.set_cons_zero]; done) | rfl)
  | ((with_reducible apply lf_len0); rfl)
  )
local macro_rules | `(tactic| wtm_at "sm") => `(tactic| first
  | ((with_reducible apply lf_smn); with_reducible assumption)
  | (with_reducible exact Smn.nat (by decide))
  | (with_reducible apply Smn.mul)
  | (with_reducible apply Smn.add)
  | (with_reducible apply Smn.sub)
  | (with_reducible apply Smn.neg)
  | (with_reducible apply Smn.ite)
  | (with_reducible apply Smn.div _ (by omega))
  | (with_reducible apply Smn.mod _ (by omega))
  | ((with_reducible refine Smn.of ?_); omega))
local macro_rules | `(tactic| wtm_at "nl") => `(tactic| first
  | (with_reducible apply ev_rng1)
  | (with_reducible apply ev_rng2)
  | (with_reducible apply nl_nil)
  | ((with_reducible apply lf_nl); first | apply nl_tN | apply nl_nil)
  | ((with_reducible apply lf_ok); rfl)
  | ((with_reducible apply lf_itm); rfl))
local macro_rules | `(tactic| wtm_at "e1") => `(tactic| first
  | (with_reducible intro _)
  | (with_reducible exact ev_c)
  | (with_reducible exact ev_args0)
  | (with_reducible exact ev_part0)
  | ((with_reducible apply ev_var); rfl)
  | ((with_reducible apply ev_varO); rfl)
  | (with_reducible apply ev_ix)
  | (with_reducible apply ev_dix)
  | (with_reducible apply ev_din)
  | (with_reducible apply ev_dnotIn)
  | (with_reducible apply ev_get1)
  | (with_reducible apply ev_get2)
  | (with_reducible apply ev_shrN)
  | (with_reducible apply ev_frzD)
  | (with_reducible exact ev_pairs0)
  | (with_reducible apply ev_pairs)
  | (with_reducible apply ev_dispK)
  | (with_reducible apply ev_sortedD)
  | (with_reducible apply ev_rev)
  | (with_reducible apply ev_cutT)
  | (with_reducible apply ev_catT)
  | (with_reducible apply ev_seqK)
  | (with_reducible apply ev_add)
  | (with_reducible apply ev_sub)
  | (with_reducible apply ev_mul)
  | (with_reducible apply ev_div)
  | (with_reducible apply ev_mod)
  | (with_reducible apply ev_neg)
  | (with_reducible apply ev_lt)
  | (with_reducible apply ev_le)
  | (with_reducible apply ev_gt)
  | (with_reducible apply ev_ge)
  | (with_reducible apply ev_eq)
  | (with_reducible apply ev_ne)
  | (with_reducible apply ev_isN)
  | (with_reducible apply ev_notN)
  | (with_reducible apply ev_args)
  | (with_reducible apply ev_tup)
  | (with_reducible apply ev_frz)
  | (with_reducible apply ev_shr)
  | (with_reducible apply ev_disp)
  | (with_reducible apply ev_blt1)
  | (with_reducible apply ev_blt2)
  | (with_reducible apply ev_un)
  | (with_reducible apply ev_and)
  | (with_reducible apply ev_or)
  | (with_reducible apply ev_not)
  | (with_reducible apply tv)
  | (with_reducible apply tt_tru)
  | (with_reducible apply tt_and)
  | (with_reducible apply tt_or)
  | (with_reducible apply tt_not)
  | (with_reducible apply ev_ofSeq)
  | (with_reducible apply ev_part)
  | (with_reducible apply ev_slice)
  | (with_reducible apply ev_compN)
  | (with_reducible exact ev_true)
  | wtm_at "nl"
  | (with_reducible apply ev_chain)
  | (with_reducible apply ev_call)
  | wtm_at "call"
  | wtm_at "leaf"
  | wtm_at "sm")
local macro_rules | `(tactic| wtm_at "ev") => `(tactic| repeat' wtm_at "e1")
local macro_rules | `(tactic| wtm_at "dec") => `(tactic| decide)
local macro_rules | `(tactic| wtm_at "s1") => `(tactic| first
  | (with_reducible exact cs_skip)
  | (with_reducible apply cs_setN)
  | (with_reducible apply cs_dputO)
  | (with_reducible apply cs_ownD)
  | (with_reducible apply cs_frzD)
  | (with_reducible apply cs_retD)
  | (with_reducible apply cs_ownN)
  | (with_reducible apply cs_frzN)
  | (with_reducible apply cs_augN)
  | (with_reducible apply ev_chgN)
  | (with_reducible apply cs_setIxN)
  | (with_reducible apply cs_drop)
  | (with_reducible apply cs_asg)
  | (with_reducible apply cs_ret)
  | wtm_at "e1")
local macro_rules | `(tactic| wtm_at "st") => `(tactic| repeat' wtm_at "s1")
local macro_rules | `(tactic| wtm_at "dz") => `(tactic| (with_reducible apply Dz.nx; · wtm_at "st"))
local macro_rules | `(tactic| wtm_at "di") => `(tactic| (with_reducible apply Dz.ite; · wtm_at "ev"))
def sS (X Y W : Cd) (a : A3) (h : List D) (l g : Int) (X4 X5 : Sl) : Z := ⟨[.val (bxD X Y W), .val (tD a), .val (.int l), .val (.int g), X4, X5], h⟩
def loA (X Y W : Cd) (a : A3) : Int := lo a.1 X.l X.h + lo a.2.1 Y.l Y.h + lo a.2.2 W.l W.h
def hiA (X Y W : Cd) (a : A3) : Int := hi a.1 X.l X.h + hi a.2.1 Y.l Y.h + hi a.2.2 W.l W.h
theorem span_step {X Y W : Cd} {a : A3} {h : List D} {l g i b c : Int} (k : Int) (X5 : Sl) (h1 : atI [D.int a.1, .int a.2.1, .int a.2.2] k = some (.int i)) (h2 : atI [D.int X.l, .int Y.l, .int W.l, .int X.h, .int Y.h, .int W.h] k = some (.int b)) (h3 : atI [D.int X.l, .int Y.l, .int W.l, .int X.h, .int Y.h, .int W.h] (k + 3) = some (.int c)) (si : Smn 400 i) (sb : Smn 64 b) (sc : Smn 64 c) :
    Dz lp_span_of1 (sS X Y W a h l g (.val (.int k)) X5) fun f z => f = .nx ∧ ∃ X5, z = sS X Y W a h (l + lo i b c) (g + hi i b c) (.val (.int k)) X5 := by
  unfold lp_span_of1
  have m1 : (E.op O.mul (E.op O.ix (E.var 1) (E.var 4)) (E.op O.ix (E.var 0) (E.var 4))) (sS X Y W a h l g (.val (.int k)) X5) = some (.int (i * b), sS X Y W a h l g (.val (.int k)) X5) := ev_mul (ev_ix (ev_var (n := 1) (d := tD a) rfl) (ev_var rfl) rfl h1) (ev_ix (ev_var (n := 0) (d := bxD X Y W) rfl) (ev_var rfl) rfl h2) si sb (by decide) (by decide)
  have m2 : (E.op O.mul (E.op O.ix (E.var 1) (E.var 4)) (E.op O.ix (E.var 0) (E.op O.add (E.var 4) (E.c (.int 3))))) (sS X Y W a h l g (.val (.int k)) X5) = some (.int (i * c), sS X Y W a h l g (.val (.int k)) X5) := ev_mul (ev_ix (ev_var (n := 1) (d := tD a) rfl) (ev_var rfl) rfl h1) (ev_ix (ev_var (n := 0) (d := bxD X Y W) rfl) (ev_add (ev_var rfl) ev_c) rfl h3) si sc (by decide) (by decide)
  refine Dz.nx (z1 := sS X Y W a h l g (.val (.int k)) (.val (.tup [.int (i * b), .int (i * c)]))) (cs_setN (ev_tup (ev_args m1 (ev_args m2 ev_args0 rfl) rfl)) rfl rfl) ?_
  refine Dz.nx (z1 := sS X Y W a h (l + lo i b c) g (.val (.int k)) (.val (.tup [.int (i * b), .int (i * c)]))) (cs_augN rfl (ev_blt1 (ev_var rfl) (lf_minR (ds := [.int (i * b), .int (i * c)]) (t := true) rfl rfl)) rfl rfl rfl) ?_
  exact Dz.of (z1 := sS X Y W a h (l + lo i b c) (g + hi i b c) (.val (.int k)) (.val (.tup [.int (i * b), .int (i * c)]))) (cs_augN rfl (ev_blt1 (ev_var rfl) (lf_maxR (ds := [.int (i * b), .int (i * c)]) (t := true) rfl rfl)) rfl rfl rfl) ⟨rfl, _, rfl⟩
theorem span_ev {X Y W : Cd} (bx : CB X) (by_ : CB Y) (bw : CB W) {a : A3} (ha : VB 400 a) (h : List D) : m_span_of [bxD X Y W, tD a] h = some (.tup [.int (loA X Y W a), .int (hiA X Y W a)], h) := by
  refine Dz.fnE rfl ?_
  unfold b_span_of
  refine Dz.nx (z1 := ⟨[.val (bxD X Y W), .val (tD a), .val (.int 0), .no, .no, .no], h⟩) (cs_setN ev_c rfl rfl) ?_
  refine Dz.nx (z1 := sS X Y W a h 0 0 .no .no) (cs_setN ev_c rfl rfl) ?_
  refine Dz.thn (R := fun z => ∃ X4 X5, z = sS X Y W a h (loA X Y W a) (hiA X Y W a) X4 X5) ?_ ?_
  · refine Dz.rng (a := 0) (n := 3) (ev_rng1 (n := 3) ev_c ⟨by decide, by decide⟩) (fun k z => ∃ X4 X5, z = match k with
      | 0 => sS X Y W a h 0 0 X4 X5
      | 1 => sS X Y W a h (0 + lo a.1 X.l X.h) (0 + hi a.1 X.l X.h) X4 X5
      | 2 => sS X Y W a h (0 + lo a.1 X.l X.h + lo a.2.1 Y.l Y.h) (0 + hi a.1 X.l X.h + hi a.2.1 Y.l Y.h) X4 X5
      | _ => sS X Y W a h (0 + lo a.1 X.l X.h + lo a.2.1 Y.l Y.h + lo a.2.2 W.l W.h) (0 + hi a.1 X.l X.h + hi a.2.1 Y.l Y.h + hi a.2.2 W.l W.h) X4 X5) ⟨_, _, rfl⟩ ?_ ?_
    · rintro k z hk ⟨X4, X5, rfl⟩
      rcases (by omega : k = 0 ∨ k = 1 ∨ k = 2) with rfl | rfl | rfl
      · exact ⟨_, gr_nm rfl, (span_step 0 X5 rfl rfl rfl ha.1 bx.l bx.h).imp fun f z ⟨h1, X5, h2⟩ => by subst h1 h2; exact ⟨_, X5, rfl⟩⟩
      · exact ⟨_, gr_nm rfl, (span_step 1 X5 rfl rfl rfl ha.2.1 by_.l by_.h).imp fun f z ⟨h1, X5, h2⟩ => by subst h1 h2; exact ⟨_, X5, rfl⟩⟩
      · exact ⟨_, gr_nm rfl, (span_step 2 X5 rfl rfl rfl ha.2.2 bw.l bw.h).imp fun f z ⟨h1, X5, h2⟩ => by subst h1 h2; exact ⟨_, X5, rfl⟩⟩
    · rintro z ⟨X4, X5, rfl⟩
      refine ⟨rfl, X4, X5, ?_⟩
      unfold loA hiA
      show sS X Y W a h (0 + lo a.1 X.l X.h + lo a.2.1 Y.l Y.h + lo a.2.2 W.l W.h) (0 + hi a.1 X.l X.h + hi a.2.1 Y.l Y.h + hi a.2.2 W.l W.h) X4 X5 = _
      rw [Int.zero_add, Int.zero_add]
  · rintro z ⟨X4, X5, rfl⟩
    exact Dz.of (cs_ret (ev_tup (ev_args (ev_var rfl) (ev_args (ev_var rfl) ev_args0 rfl) rfl)) rfl) ⟨rfl, rfl⟩
theorem empty_ev (X Y W : Cd) (h : List D) : m_is_empty [bxD X Y W] h = some (.bl (decide (X.h ≤ X.l) || (decide (Y.h ≤ Y.l) || decide (W.h ≤ W.l))), h) := by
  refine Dz.fnE rfl ?_
  unfold b_is_empty
  have one : ∀ {k b c : Int}, atI [D.int X.l, D.int Y.l, D.int W.l, D.int X.h, D.int Y.h, D.int W.h] k = some (D.int b) → atI [D.int X.l, D.int Y.l, D.int W.l, D.int X.h, D.int Y.h, D.int W.h] (k + 3) = some (D.int c) → (E.op O.ge (E.op O.ix (E.var 0) (E.var 1)) (E.op O.ix (E.var 0) (E.op O.add (E.var 1) (E.c (D.int 3))))) ⟨[.val (bxD X Y W), .val (D.int k)], h⟩ = some (.bl (decide (c ≤ b)), ⟨[.val (bxD X Y W), .val (D.int k)], h⟩) := fun {k b c} h1 h2 =>
    ev_ge (ev_ix (ev_var (n := 0) (d := bxD X Y W) rfl) (ev_var rfl) rfl h1) (ev_ix (ev_var (n := 0) (d := bxD X Y W) rfl) (ev_add (ev_var rfl) ev_c) rfl h2)
  have c := ev_comp3 (g := G.nm 1) (vs := [1]) (z := ⟨[.val (bxD X Y W), .no], h⟩) rng3 rfl rfl (gr_nm rfl) (one (k := 0) (b := X.l) (c := X.h) rfl rfl) rfl rfl (gr_nm rfl) (one (k := 1) (b := Y.l) (c := Y.h) rfl rfl) rfl rfl (gr_nm rfl) (one (k := 2) (b := W.l) (c := W.h) rfl rfl) rfl rfl rfl
  refine Dz.of (cs_ret (ev_blt1 (d := .bl (decide (X.h ≤ X.l) || (decide (Y.h ≤ Y.l) || (decide (W.h ≤ W.l) || false)))) (ev_frz c) rfl) rfl) ⟨?_, rfl⟩
  rw [Bool.or_false]
def uS (X Y W : Cd) (h : List D) (X2 X3 X4 X5 : Sl) : Z := ⟨[.val (bxD X Y W), .val (trD X Y W), X2, X3, X4, X5, .no], h⟩
theorem touches_ev {X Y W : Cd} (bx : CB X) (by_ : CB Y) (bw : CB W) (h : List D) : ∃ b : Bool, m_touches [bxD X Y W, trD X Y W] h = some (.bl b, h) ∧ (b = true ↔ T X Y W) := by
  have body : Dz b_touches ⟨slots 7 [bxD X Y W, trD X Y W], h⟩ fun f z => match f with | .nx => False | .rt d => (∃ b : Bool, d = .bl b ∧ (b = true ↔ T X Y W)) ∧ z.h = h | _ => False := by
    unfold b_touches
    have te := ev_call (z := uS X Y W h .no .no .no .no) (as := [E.var 0]) (ev_args (ev_var rfl) ev_args0 rfl) (empty_ev X Y W h)
    refine Dz.seq (Dz.ite (z1 := uS X Y W h .no .no .no .no) (tt_tru te rfl) (fun c => ?_) fun c => Dz.skip ?_)
    · refine Dz.of (cs_ret ev_c rfl) ⟨⟨false, rfl, fun q => (nomatch q), fun t => ?_⟩, rfl⟩
      have g := ((touch_iff X Y W).mpr t).1
      simp at c
      omega
    · have g : X.l < X.h ∧ Y.l < Y.h ∧ W.l < W.h := by
        simp at c
        omega
      have ea := ev_call (z := uS X Y W h .no .no .no .no) (as := [E.var 1]) (ev_args (ev_var rfl) ev_args0 rfl) (axes_ev bx by_ bw h)
      refine Dz.seq (Dz.for_ (ev_seq (xs := ((axP X Y W).filter nzB).map tD) ea rfl) rfl (fun ds z => ∃ (P R : List A3) (X2 X3 X4 X5 : Sl), (axP X Y W).filter nzB = P ++ R ∧ ds = R.map tD ∧ (∀ a ∈ P, ok3 a.1 a.2.1 a.2.2 X Y W) ∧ z = uS X Y W h X2 X3 X4 X5) ⟨[], _, _, _, _, _, rfl, rfl, (fun _ h => nomatch h), rfl⟩ ?_ ?_)
      · rintro d ds z ⟨P, R, X2, X3, X4, X5, hL, e, hP, rfl⟩
        cases R with
        | nil => cases e
        | cons a R =>
          rw [List.map_cons, List.cons.injEq] at e
          obtain ⟨rfl, rfl⟩ := e
          have hm : a ∈ (axP X Y W).filter nzB := by rw [hL]; exact List.mem_append_right _ List.mem_cons_self
          rw [List.mem_filter] at hm
          have va : VB 400 a := (ax_vb bx by_ bw hm.1).mono (by decide)
          have v0 : VB 400 (q0 X Y W) := ⟨bx.a.mono (by decide), by_.a.mono (by decide), bw.a.mono (by decide)⟩
          have v1 : VB 400 (q1 X Y W) := ⟨bx.b.mono (by decide), by_.b.mono (by decide), bw.b.mono (by decide)⟩
          have v2 : VB 400 (q2 X Y W) := ⟨bx.c.mono (by decide), by_.c.mono (by decide), bw.c.mono (by decide)⟩
          refine ⟨uS X Y W h (.val (tD a)) X3 X4 X5, rfl, ?_⟩
          unfold lp_touches1
          refine Dz.nx (z1 := uS X Y W h (.val (tD a)) (.val (.int (loA X Y W a))) (.val (.int (hiA X Y W a))) X5) (cs_asg (ev_call (ev_args (ev_var rfl) (ev_args (ev_var rfl) ev_args0 rfl) rfl) (span_ev bx by_ bw va h)) rfl (gr_tp (gr_cons (gr_nm rfl) (gr_cons (gr_nm rfl) gr_nil)))) ?_
          have one : ∀ {p : A3}, VB 400 p → (E.call m_dot [(E.var 2), (E.var 6)]) ⟨[.val (bxD X Y W), .val (trD X Y W), .val (tD a), .val (.int (loA X Y W a)), .val (.int (hiA X Y W a)), X5, .val (tD p)], h⟩ = some (.int (dt a p), ⟨[.val (bxD X Y W), .val (trD X Y W), .val (tD a), .val (.int (loA X Y W a)), .val (.int (hiA X Y W a)), X5, .val (tD p)], h⟩) := fun {p} vp =>
            ev_call (ev_args (ev_var rfl) (ev_args (ev_var rfl) ev_args0 rfl) rfl) (dot_ev va vp h)
          have c := ev_comp3 (g := G.nm 6) (vs := [6]) (z := uS X Y W h (.val (tD a)) (.val (.int (loA X Y W a))) (.val (.int (hiA X Y W a))) X5) (mi := I.seqC (E.var 1)) (ev_seqC (x := trD X Y W) (ev_var rfl) rfl) rfl rfl (gr_nm rfl) (one v0) rfl rfl (gr_nm rfl) (one v1) rfl rfl (gr_nm rfl) (one v2) rfl rfl rfl
          refine Dz.nx (z1 := uS X Y W h (.val (tD a)) (.val (.int (loA X Y W a))) (.val (.int (hiA X Y W a))) (.val (.lst [.int (dt a (q0 X Y W)), .int (dt a (q1 X Y W)), .int (dt a (q2 X Y W))]))) (cs_setN (ev_frz c) rfl rfl) ?_
          have tm := tt_or (tv (ev_le (z := uS X Y W h (.val (tD a)) (.val (.int (loA X Y W a))) (.val (.int (hiA X Y W a))) (.val (.lst [.int (dt a (q0 X Y W)), .int (dt a (q1 X Y W)), .int (dt a (q2 X Y W))]))) (ev_blt1 (ev_var (n := 5) rfl) (lf_maxR (ds := [.int (dt a (q0 X Y W)), .int (dt a (q1 X Y W)), .int (dt a (q2 X Y W))]) (t := false) rfl rfl)) (ev_var (n := 3) rfl))) fun _ => tv (ev_ge (ev_blt1 (ev_var (n := 5) rfl) (lf_minR (ds := [.int (dt a (q0 X Y W)), .int (dt a (q1 X Y W)), .int (dt a (q2 X Y W))]) (t := false) rfl rfl)) (ev_var (n := 4) rfl))
          have key : (decide (([dt a (q1 X Y W), dt a (q2 X Y W)].foldl (fun a b => if a < b then b else a) (dt a (q0 X Y W))) ≤ loA X Y W a) || decide (hiA X Y W a ≤ [dt a (q1 X Y W), dt a (q2 X Y W)].foldl (fun a b => if b < a then b else a) (dt a (q0 X Y W)))) = false ↔ ok3 a.1 a.2.1 a.2.2 X Y W := by
            show _ ↔ (loA X Y W a < dt a (q0 X Y W) ∨ loA X Y W a < dt a (q1 X Y W) ∨ loA X Y W a < dt a (q2 X Y W)) ∧ (dt a (q0 X Y W) < hiA X Y W a ∨ dt a (q1 X Y W) < hiA X Y W a ∨ dt a (q2 X Y W) < hiA X Y W a)
            generalize dt a (q0 X Y W) = m0
            generalize dt a (q1 X Y W) = m1
            generalize dt a (q2 X Y W) = m2
            generalize loA X Y W a = L
            generalize hiA X Y W a = H
            rw [Bool.or_eq_false_iff, decide_eq_false_iff_not, decide_eq_false_iff_not]
            show ¬ ((if (if m0 < m1 then m1 else m0) < m2 then m2 else (if m0 < m1 then m1 else m0)) ≤ L) ∧ ¬ (H ≤ (if m2 < (if m1 < m0 then m1 else m0) then m2 else (if m1 < m0 then m1 else m0))) ↔ _
            constructor
            · rintro ⟨k1, k2⟩
              repeat' split at k1
              all_goals (repeat' split at k2)
              all_goals omega
            · rintro ⟨k1, k2⟩
              constructor
              · repeat' split
                all_goals omega
              · repeat' split
                all_goals omega
          refine Dz.ite tm (fun c => ?_) fun c => Dz.skip ?_
          · refine Dz.of (cs_ret ev_c rfl) ⟨⟨false, rfl, fun q => (nomatch q), fun t => ?_⟩, rfl⟩
            have k := sound t ((nzB_iff a).mp hm.2)
            rw [← key] at k
            rw [k] at c
            cases c
          · refine ⟨P ++ [a], R, _, _, _, _, by rw [List.append_assoc]; exact hL, rfl, fun b hb => ?_, rfl⟩
            rcases List.mem_append.mp hb with hb | hb
            · exact hP b hb
            · rw [List.mem_singleton] at hb
              subst hb
              exact key.mp c
      · rintro z ⟨P, R, X2, X3, X4, X5, hL, e, hP, rfl⟩
        cases R with
        | cons a R => cases e
        | nil =>
          refine Dz.of (cs_ret ev_c rfl) ⟨⟨true, rfl, fun _ => ?_, fun _ => rfl⟩, rfl⟩
          rw [← touch_iff]
          refine ⟨g, fun a ha hz => hP a ?_⟩
          rw [List.append_nil] at hL
          rw [← hL, List.mem_filter, axP_eq]
          exact ⟨ha, (nzB_iff a).mpr hz⟩
  obtain ⟨d, h2, e, ⟨b, rfl, hb⟩, rfl⟩ := Dz.fn (n := 7) (k := 2) (R := fun d h2 => (∃ b : Bool, d = .bl b ∧ (b = true ↔ T X Y W)) ∧ h2 = h) rfl (body.imp fun f z q => by cases f <;> first | exact q.elim | exact q)
  exact ⟨b, e, hb⟩
end K24

set_option Elab.async false
set_option linter.all false
set_option maxRecDepth 100000
set_option maxHeartbeats 2000000
namespace K24
open PySem L2 Mi Sat
local macro_rules | `(tactic| wtm_at "leaf") => `(tactic| first
  | ((with_reducible apply lf_cont); rfl)
  | (with_reducible exact atI_zero)
  | ((with_reducible apply lf_dcont); rfl)
  | ((with_reducible apply lf_dcS); rfl)
  | ((with_reducible apply lf_dgetC); rfl)
  | ((with_reducible apply lf_keyD); rfl)
  | ((with_reducible apply lf_isDict); rfl)
  | ((with_reducible apply lf_dkeys); rfl)
  | ((with_reducible apply lf_atI); first | rfl | exact atI_zero)
  | ((with_reducible apply lf_get); rfl)
  | ((with_reducible apply lf_pure); rfl)
  | ((with_reducible apply lf_setAt); rfl)
  | ((with_reducible apply lf_tru); rfl)
  | ((with_reducible apply lf_lt); exact Nat.le_of_ble_eq_true rfl)
  | ((with_reducible apply lf_pos); first | assumption | decide | omega)
  | ((with_reducible apply lf_le); decide)
  | ((with_reducible apply lf_isNm); rfl)
  | ((with_reducible apply lf_notNm); rfl)
  | ((with_reducible apply lf_noScr); rfl)
  | ((with_reducible apply lf_noKt); rfl)
  | (with_reducible exact eqP_int)
  | (with_reducible exact lf_abs)
  | (with_reducible exact lf_int1)
  | (with_reducible exact lf_max2)
  | (with_reducible exact lf_min2)
  | (with_reducible apply lf_len)
  | (with_reducible apply lf_tuple)
  | (with_reducible apply lf_isi)
  | (with_reducible exact eqP_t3)
  | (with_reducible exact eqP_bl)
  | (with_reducible exact eqP_t2)
  | (with_reducible exact kb_tt)
  | (with_reducible exact kb_bb)
  | (with_reducible exact kb_ii)
  | (with_reducible exact kb_it)
  | (with_reducible exact kb_ib)
  | (with_reducible exact kb_bi)
  | (with_reducible exact kb_ll)
  | (with_reducible exact kb_ss)
  | ((with_reducible apply lf_isiK); with_unfolding_all decide)
  | ((with_reducible apply lf_ty); rfl)
  | ((with_reducible apply lf_bd); exact ⟨by decide, by decide⟩)
  | ((with_reducible apply lf_allO); rfl)
  | ((with_reducible apply lf_app); first | ((repeat (first | (with_reducible exact la_nil) | (with_reducible apply la_cons))); done) | rfl)
  | ((with_reducible apply lf_set); first | ((repeat (first | (with_reducible exact sl_z) | (with_reducible apply sl_s))); done) | rfl)
  | ((with_reducible apply lf_slots); first | ((repeat (first | (with_reducible exact se_nil) | (with_reducible apply se_cons) | (with_reducible apply ss_cons) | (with_reducible apply ss_nil))); done) | rfl)
  | (with_reducible exact sw_nil)
  | (with_reducible apply sw_cons)
  | ((with_reducible apply lf_wipe); rfl)
  | (with_reducible exact sr_nil)
  | (with_reducible apply sr_cons)
  | ((with_reducible apply lf_rest); rfl)
  | (with_reducible apply gr_nm)
  | (with_reducible exact gr_nil)
  | (with_reducible apply gr_cons)
  | (with_reducible apply gr_tp)
  | (with_reducible apply gr_tl)
  | ((with_reducible apply lf_run); first | (simp only [G.nm, G.tp, G.tl, G.runs, List.set_cons_succ, List.set_cons_zero]; done) | rfl)
  | ((with_reducible apply lf_len0); rfl)
  )
local macro_rules | `(tactic| wtm_at "sm") => `(tactic| first
  | ((with_reducible apply lf_smn); with_reducible assumption)
  | (with_reducible exact Smn.nat (by decide))
  | (with_reducible apply Smn.mul)
  | (with_reducible apply Smn.add)
  | (with_reducible apply Smn.sub)
  | (with_reducible apply Smn.neg)
  | (with_reducible apply Smn.ite)
  | (with_reducible apply Smn.div _ (by omega))
  | (with_reducible apply Smn.mod _ (by omega))
  | ((with_reducible refine Smn.of ?_); omega))
local macro_rules | `(tactic| wtm_at "nl") => `(tactic| first
  | (with_reducible apply ev_rng1)
  | (with_reducible apply ev_rng2)
  | (with_reducible apply nl_nil)
  | ((with_reducible apply lf_nl); first | apply nl_tN | apply nl_nil)
  | ((with_reducible apply lf_ok); rfl)
  | ((with_reducible apply lf_itm); rfl))
local macro_rules | `(tactic| wtm_at "e1") => `(tactic| first
  | (with_reducible intro _)
  | (with_reducible exact ev_c)
  | (with_reducible exact ev_args0)
  | (with_reducible exact ev_part0)
  | ((with_reducible apply ev_var); rfl)
  | ((with_reducible apply ev_varO); rfl)
  | (with_reducible apply ev_ix)
  | (with_reducible apply ev_dix)
  | (with_reducible apply ev_din)
  | (with_reducible apply ev_dnotIn)
  | (with_reducible apply ev_get1)
  | (with_reducible apply ev_get2)
  | (with_reducible apply ev_shrN)
  | (with_reducible apply ev_frzD)
  | (with_reducible exact ev_pairs0)
  | (with_reducible apply ev_pairs)
  | (with_reducible apply ev_dispK)
  | (with_reducible apply ev_sortedD)
  | (with_reducible apply ev_rev)
  | (with_reducible apply ev_cutT)
  | (with_reducible apply ev_catT)
  | (with_reducible apply ev_seqK)
  | (with_reducible apply ev_add)
  | (with_reducible apply ev_sub)
  | (with_reducible apply ev_mul)
  | (with_reducible apply ev_div)
  | (with_reducible apply ev_mod)
  | (with_reducible apply ev_neg)
  | (with_reducible apply ev_lt)
  | (with_reducible apply ev_le)
  | (with_reducible apply ev_gt)
  | (with_reducible apply ev_ge)
  | (with_reducible apply ev_eq)
  | (with_reducible apply ev_ne)
  | (with_reducible apply ev_isN)
  | (with_reducible apply ev_notN)
  | (with_reducible apply ev_args)
  | (with_reducible apply ev_tup)
  | (with_reducible apply ev_frz)
  | (with_reducible apply ev_shr)
  | (with_reducible apply ev_disp)
  | (with_reducible apply ev_blt1)
  | (with_reducible apply ev_blt2)
  | (with_reducible apply ev_un)
  | (with_reducible apply ev_and)
  | (with_reducible apply ev_or)
  | (with_reducible apply ev_not)
  | (with_reducible apply tv)
  | (with_reducible apply tt_tru)
  | (with_reducible apply tt_and)
  | (with_reducible apply tt_or)
  | (with_reducible apply tt_not)
  | (with_reducible apply ev_ofSeq)
  | (with_reducible apply ev_part)
  | (with_reducible apply ev_slice)
  | (with_reducible apply ev_compN)
  | (with_reducible exact ev_true)
  | wtm_at "nl"
  | (with_reducible apply ev_chain)
  | (with_reducible apply ev_call)
  | wtm_at "call"
  | wtm_at "leaf"
  | wtm_at "sm")
local macro_rules | `(tactic| wtm_at "ev") => `(tactic| repeat' wtm_at "e1")
local macro_rules | `(tactic| wtm_at "dec") => `(tactic| decide)
local macro_rules | `(tactic| wtm_at "s1") => `(tactic| first
  | (with_reducible exact cs_skip)
  | (with_reducible apply cs_setN)
  | (with_reducible apply cs_dputO)
  | (with_reducible apply cs_ownD)
  | (with_reducible apply cs_frzD)
  | (with_reducible apply cs_retD)
  | (with_reducible apply cs_ownN)
  | (with_reducible apply cs_frzN)
  | (with_reducible apply cs_augN)
  | (with_reducible apply ev_chgN)
  | (with_reducible apply cs_setIxN)
  | (with_reducible apply cs_drop)
  | (with_reducible apply cs_asg)
  | (with_reducible apply cs_ret)
  | wtm_at "e1")
local macro_rules | `(tactic| wtm_at "st") => `(tactic| repeat' wtm_at "s1")
local macro_rules | `(tactic| wtm_at "dz") => `(tactic| (with_reducible apply Dz.nx; · wtm_at "st"))
local macro_rules | `(tactic| wtm_at "di") => `(tactic| (with_reducible apply Dz.ite; · wtm_at "ev"))
theorem takeX (t : Mi.TS) {many : Nat} (h : 0 < many) : ∃ (v : Nat) (t' : Mi.TS), v < many ∧ m_law_take [.ref 0, .int many] (tkH t) = some (.int v, tkH t') := St.takeX t [] h
theorem stream_ev (ns : List Int) (hl : ns.length ≤ 63) : ∃ t : Mi.TS, m_law_stream [.scr (ns.map D.int)] [] = some (.ref 0, tkH t) := St.stream_ev ns hl
/-! ### what the law draws -/
theorem box_ev (t : Mi.TS) : ∃ (lx ly lz hx hy hz : Int) (t' : Mi.TS), (-4 ≤ lx ∧ lx ≤ hx ∧ hx ≤ 8) ∧ (-4 ≤ ly ∧ ly ≤ hy ∧ hy ≤ 8) ∧ (-4 ≤ lz ∧ lz ≤ hz ∧ hz ≤ 8) ∧ m_law_box [.ref 0] (tkH t) = some (.tup [.int lx, .int ly, .int lz, .int hx, .int hy, .int hz], tkH t') := by
  obtain ⟨a, t1, ha, e1⟩ := takeX t (many := 9) (by decide)
  obtain ⟨b, t2, hb, e2⟩ := takeX t1 (many := 9) (by decide)
  obtain ⟨c, t3, hc, e3⟩ := takeX t2 (many := 9) (by decide)
  obtain ⟨u, t4, hu, e4⟩ := takeX t3 (many := 5) (by decide)
  obtain ⟨v, t5, hv, e5⟩ := takeX t4 (many := 5) (by decide)
  obtain ⟨w, t6, hw, e6⟩ := takeX t5 (many := 5) (by decide)
  refine ⟨(a : Int) - 4, (b : Int) - 4, (c : Int) - 4, (a : Int) - 4 + u, (b : Int) - 4 + v, (c : Int) - 4 + w, t6, by omega, by omega, by omega, ?_⟩
  refine Dz.fnE rfl ?_
  unfold b_law_box
  have one : ∀ {k : Int} {t t' : Mi.TS} {v : Nat}, m_law_take [.ref 0, .int (9 : Nat)] (tkH t) = some (.int v, tkH t') → (E.op O.sub (E.call m_law_take [(E.var 0), (E.c (.int 9))]) (E.c (.int 4))) ⟨[.val (.ref 0), .no, .val (.int k), .no, .no], tkH t⟩ = some (.int ((v : Int) - 4), ⟨[.val (.ref 0), .no, .val (.int k), .no, .no], tkH t'⟩) := fun e => ev_sub (ev_call (ev_args (ev_var rfl) (ev_args ev_c ev_args0 rfl) rfl) e) ev_c
  have c1 := ev_comp3 (g := G.nm 2) (vs := [2]) (z := ⟨[.val (.ref 0), .no, .no, .no, .no], tkH t⟩) rng3 rfl rfl (gr_nm rfl) (one e1) rfl rfl (gr_nm rfl) (one e2) rfl rfl (gr_nm rfl) (one e3) rfl rfl rfl
  refine Dz.nx (z1 := ⟨[.val (.ref 0), .val (.lst [.int ((a : Int) - 4), .int ((b : Int) - 4), .int ((c : Int) - 4)]), .no, .no, .no], tkH t3⟩) (cs_setN (ev_frz c1) rfl rfl) ?_
  have two : ∀ {L : D} {k : Int} {t t' : Mi.TS} {v : Nat}, m_law_take [.ref 0, .int (5 : Nat)] (tkH t) = some (.int v, tkH t') → (E.op O.add (E.var 4) (E.call m_law_take [(E.var 0), (E.c (.int 5))])) ⟨[.val (.ref 0), .val L, .no, .no, .val (.int k)], tkH t⟩ = some (.int (k + (v : Int)), ⟨[.val (.ref 0), .val L, .no, .no, .val (.int k)], tkH t'⟩) := fun e => ev_add (ev_var rfl) (ev_call (ev_args (ev_var rfl) (ev_args ev_c ev_args0 rfl) rfl) e)
  have c2 := ev_comp3 (g := G.nm 4) (vs := [4]) (mi := I.seqC (E.var 1)) (z := ⟨[.val (.ref 0), .val (.lst [.int ((a : Int) - 4), .int ((b : Int) - 4), .int ((c : Int) - 4)]), .no, .no, .no], tkH t3⟩) (ev_seqC (ev_var rfl) rfl) rfl rfl (gr_nm rfl) (two e4) rfl rfl (gr_nm rfl) (two e5) rfl rfl (gr_nm rfl) (two e6) rfl rfl rfl
  refine Dz.nx (z1 := ⟨[.val (.ref 0), .val (.lst [.int ((a : Int) - 4), .int ((b : Int) - 4), .int ((c : Int) - 4)]), .no, .val (.lst [.int ((a : Int) - 4 + u), .int ((b : Int) - 4 + v), .int ((c : Int) - 4 + w)]), .no], tkH t6⟩) (cs_setN (ev_frz c2) rfl rfl) ?_
  exact Dz.of (cs_ret (ev_tup (ev_args (ev_ix (ev_var rfl) ev_c rfl rfl) (ev_args (ev_ix (ev_var rfl) ev_c rfl rfl) (ev_args (ev_ix (ev_var rfl) ev_c rfl rfl) (ev_args (ev_ix (ev_var rfl) ev_c rfl rfl) (ev_args (ev_ix (ev_var rfl) ev_c rfl rfl) (ev_args (ev_ix (ev_var rfl) ev_c rfl rfl) ev_args0 rfl) rfl) rfl) rfl) rfl) rfl)) rfl) ⟨rfl, rfl⟩
def Sml (a : A3) : Prop := (-20 ≤ a.1 ∧ a.1 ≤ 20) ∧ (-20 ≤ a.2.1 ∧ a.2.1 ≤ 20) ∧ -20 ≤ a.2.2 ∧ a.2.2 ≤ 20
def pS (t : Mi.TS) (P : List A3) (X2 X3 : Sl) : Z := ⟨[.val (.ref 0), .own (.lst (P.map tD)), X2, X3, .no], tkH t⟩
theorem triangle_ev (t : Mi.TS) : ∃ (p q r : A3) (t' : Mi.TS), Sml p ∧ Sml q ∧ Sml r ∧ m_law_triangle [.ref 0] (tkH t) = some (.tup [tD p, tD q, tD r], tkH t') := by
  have body : Dz b_law_triangle ⟨slots 5 [.ref 0], tkH t⟩ fun f z => match f with | .nx => False | .rt d => ∃ (p q r : A3) (t' : Mi.TS), Sml p ∧ Sml q ∧ Sml r ∧ d = .tup [tD p, tD q, tD r] ∧ z.h = tkH t' | _ => False := by
    unfold b_law_triangle
    refine Dz.nx (z1 := pS t [] .no .no) (cs_ownN (ev_disp ev_args0) (Nat.le_of_ble_eq_true rfl) rfl) ?_
    refine Dz.thn (R := fun z => ∃ t P X2 X3, P.length = 3 ∧ (∀ p ∈ P, Sml p) ∧ z = pS t P X2 X3) ?_ ?_
    · refine Dz.rng (a := 0) (n := 3) (ev_rng1 (n := 3) ev_c ⟨by decide, by decide⟩) (fun k z => ∃ t P X2 X3, P.length = k ∧ (∀ p ∈ P, Sml p) ∧ z = pS t P X2 X3) ⟨t, [], _, _, rfl, (fun _ h => nomatch h), rfl⟩ ?_ ?_
      · rintro k z hk ⟨t, P, X2, X3, hP, hs, rfl⟩
        refine ⟨pS t P (.val (.int (0 + (k : Int)))) X3, rfl, ?_⟩
        generalize (Sl.val (.int (0 + (k : Int)))) = X2'
        unfold lp_law_triangle2 cp_law_triangle1
        obtain ⟨a, t1, ha, e1⟩ := takeX t (many := 17) (by decide)
        obtain ⟨b, t2, hb, e2⟩ := takeX t1 (many := 17) (by decide)
        obtain ⟨c, t3, hc, e3⟩ := takeX t2 (many := 17) (by decide)
        have one : ∀ {k : Int} {t t' : Mi.TS} {v : Nat}, m_law_take [.ref 0, .int (17 : Nat)] (tkH t) = some (.int v, tkH t') → (E.op O.sub (E.call m_law_take [(E.var 0), (E.c (.int 17))]) (E.c (.int 6))) ⟨[.val (.ref 0), .own (.lst (P.map tD)), X2', X3, .val (.int k)], tkH t⟩ = some (.int ((v : Int) - 6), ⟨[.val (.ref 0), .own (.lst (P.map tD)), X2', X3, .val (.int k)], tkH t'⟩) := fun e => ev_sub (ev_call (ev_args (ev_var rfl) (ev_args ev_c ev_args0 rfl) rfl) e) ev_c
        have c1 := ev_comp3 (g := G.nm 4) (vs := [4]) (z := pS t P X2' X3) rng3 rfl rfl (gr_nm rfl) (one e1) rfl rfl (gr_nm rfl) (one e2) rfl rfl (gr_nm rfl) (one e3) rfl rfl rfl
        refine Dz.nx (z1 := pS t3 P X2' (.val (.lst [.int ((a : Int) - 6), .int ((b : Int) - 6), .int ((c : Int) - 6)]))) (cs_setN (ev_frz c1) rfl rfl) ?_
        have ap : U.append (P.map tD) [.tup [.int ((a : Int) - 6), .int ((b : Int) - 6), .int ((c : Int) - 6)]] = some (.non, (P ++ [((a : Int) - 6, (b : Int) - 6, (c : Int) - 6)]).map tD) := by
          rw [append_v (by rw [List.length_map]; unfold szl; omega), List.map_append]
          rfl
        refine Dz.of (z1 := pS t3 (P ++ [((a : Int) - 6, (b : Int) - 6, (c : Int) - 6)]) X2' (.val (.lst [.int ((a : Int) - 6), .int ((b : Int) - 6), .int ((c : Int) - 6)]))) (cs_drop (ev_chgN (n := 1) (ev_varO rfl) rfl (ev_args (ev_tup (ev_args (ev_ix (ev_var (n := 3) rfl) ev_c rfl rfl) (ev_args (ev_ix (ev_var (n := 3) rfl) ev_c rfl rfl) (ev_args (ev_ix (ev_var (n := 3) rfl) ev_c rfl rfl) ev_args0 rfl) rfl) rfl)) ev_args0 rfl) rfl ap rfl)) ?_
        refine ⟨t3, _, _, _, by rw [List.length_append, hP]; rfl, fun p hp => ?_, rfl⟩
        rcases List.mem_append.mp hp with hp | hp
        · exact hs p hp
        · rw [List.mem_singleton] at hp
          subst hp
          unfold Sml
          dsimp only
          omega
      · rintro z ⟨t, P, X2, X3, hP, hs, rfl⟩
        exact ⟨rfl, t, P, X2, X3, hP, hs, rfl⟩
    · rintro z ⟨t, P, X2, X3, hP, hs, rfl⟩
      obtain ⟨p, q, r, rfl⟩ : ∃ p q r, P = [p, q, r] := by
        match P, hP with
        | [p, q, r], _ => exact ⟨p, q, r, rfl⟩
      obtain ⟨v, t1, hv, e1⟩ := takeX t (many := 5) (by decide)
      refine Dz.thn (R := fun z => ∃ t P, P.length = 3 ∧ (∀ p ∈ P, Sml p) ∧ z = pS t P X2 X3) ?_ ?_
      · refine Dz.ite (z1 := pS t1 [p, q, r] X2 X3) (tv (ev_eqI (ev_call (ev_args (ev_var rfl) (ev_args ev_c ev_args0 rfl) rfl) e1) ev_c)) (fun c => ?_) fun c => Dz.skip ⟨rfl, t1, [p, q, r], rfl, hs, rfl⟩
        obtain ⟨w, t2, hw, e2⟩ := takeX t1 (many := 2) (by decide)
        have pick : ∃ x, x ∈ [p, q, r] ∧ atI ([p, q, r].map tD) (w : Int) = some (tD x) := by
          rcases (by omega : w = 0 ∨ w = 1) with rfl | rfl
          · exact ⟨p, by simp, rfl⟩
          · exact ⟨q, by simp, rfl⟩
        obtain ⟨x, hx, ex⟩ := pick
        refine Dz.of (z1 := pS t2 [p, q, x] X2 X3) (cs_setIxN (n := 1) (ds' := [p, q, x].map tD) (ev_ix (ev_varO (n := 1) rfl) (ev_call (ev_args (ev_var rfl) (ev_args ev_c ev_args0 rfl) rfl) e2) rfl ex) (ev_varO rfl) ev_c rfl rfl rfl rfl) ⟨rfl, t2, [p, q, x], rfl, fun y hy => ?_, rfl⟩
        rcases List.mem_cons.mp hy with rfl | hy
        · exact hs _ (by simp)
        rcases List.mem_cons.mp hy with rfl | hy
        · exact hs _ (by simp)
        rw [List.mem_singleton] at hy
        subst hy
        exact hs _ hx
      · rintro z ⟨t, P, hP, hs, rfl⟩
        obtain ⟨p, q, r, rfl⟩ : ∃ p q r, P = [p, q, r] := by
          match P, hP with
          | [p, q, r], _ => exact ⟨p, q, r, rfl⟩
        exact Dz.of (cs_ret (ev_tup (ev_args (ev_ix (d := tD p) (ev_varO (n := 1) rfl) ev_c rfl rfl) (ev_args (ev_ix (d := tD q) (ev_varO (n := 1) rfl) ev_c rfl rfl) (ev_args (ev_ix (d := tD r) (ev_varO (n := 1) rfl) ev_c rfl rfl) ev_args0 rfl) rfl) rfl)) rfl) ⟨p, q, r, t, hs _ (by simp), hs _ (by simp), hs _ (by simp), rfl, rfl⟩
  obtain ⟨d, h2, e, p, q, r, t', h1, h2', h3, rfl, rfl⟩ := Dz.fn (n := 5) (k := 1) (R := fun d h2 => ∃ (p q r : A3) (t' : Mi.TS), Sml p ∧ Sml q ∧ Sml r ∧ d = .tup [tD p, tD q, tD r] ∧ h2 = tkH t') rfl (body.imp fun f z q => by cases f <;> first | exact q.elim | exact q)
  exact ⟨p, q, r, t', h1, h2', h3, e⟩
/-! ### moved, doubled -/
theorem moved_ev {x0 x1 x2 y0 y1 y2 o0 o1 o2 s0 s1 s2 tm h0 h1 h2 : Int} (a0 : atI [D.int x0, .int x1, .int x2] o0 = some (.int y0)) (a1 : atI [D.int x0, .int x1, .int x2] o1 = some (.int y1)) (a2 : atI [D.int x0, .int x1, .int x2] o2 = some (.int y2))
    (bs0 : Smn 64 s0) (bs1 : Smn 64 s1) (bs2 : Smn 64 s2) (bt : Smn 64 tm) (b0 : Smn 64 y0) (b1 : Smn 64 y1) (b2 : Smn 64 y2) (h : List D) :
    m_law_moved [.tup [.int x0, .int x1, .int x2], .lst [.int o0, .int o1, .int o2], .lst [.int s0, .int s1, .int s2], .int tm, .lst [.int h0, .int h1, .int h2]] h = some (tD (s0 * tm * y0 + h0, s1 * tm * y1 + h1, s2 * tm * y2 + h2), h) := by
  refine Dz.fnE rfl ?_
  unfold b_law_moved
  have one : ∀ {k o s y g : Int}, atI [D.int o0, D.int o1, D.int o2] k = some (.int o) → atI [D.int x0, D.int x1, D.int x2] o = some (.int y) → atI [D.int s0, D.int s1, D.int s2] k = some (.int s) → atI [D.int h0, D.int h1, D.int h2] k = some (.int g) → Smn 64 s → Smn 64 y → (E.op O.add (E.op O.mul (E.op O.mul (E.op O.ix (E.var 2) (E.var 6)) (E.var 3)) (E.op O.ix (E.var 0) (E.op O.ix (E.var 1) (E.var 6)))) (E.op O.ix (E.var 4) (E.var 6))) ⟨[.val (.tup [.int x0, .int x1, .int x2]), .val (.lst [.int o0, .int o1, .int o2]), .val (.lst [.int s0, .int s1, .int s2]), .val (.int tm), .val (.lst [.int h0, .int h1, .int h2]), .no, .val (.int k)], h⟩ = some (.int (s * tm * y + g), ⟨[.val (.tup [.int x0, .int x1, .int x2]), .val (.lst [.int o0, .int o1, .int o2]), .val (.lst [.int s0, .int s1, .int s2]), .val (.int tm), .val (.lst [.int h0, .int h1, .int h2]), .no, .val (.int k)], h⟩) := fun h1 h2 h3 h4 bs by_ =>
    ev_add (ev_mul (ev_mul (ev_ix (ev_var rfl) (ev_var rfl) rfl h3) (ev_var rfl) bs bt (by decide) (by decide)) (ev_ix (ev_var rfl) (ev_ix (ev_var rfl) (ev_var rfl) rfl h1) rfl h2) (Smn.mul bs bt) by_ (by decide) (by decide)) (ev_ix (ev_var rfl) (ev_var rfl) rfl h4)
  have c := ev_comp3 (g := G.nm 6) (vs := [6]) (z := ⟨[.val (.tup [.int x0, .int x1, .int x2]), .val (.lst [.int o0, .int o1, .int o2]), .val (.lst [.int s0, .int s1, .int s2]), .val (.int tm), .val (.lst [.int h0, .int h1, .int h2]), .no, .no], h⟩) rng3 rfl rfl (gr_nm rfl) (one (k := 0) rfl a0 rfl rfl bs0 b0) rfl rfl (gr_nm rfl) (one (k := 1) rfl a1 rfl rfl bs1 b1) rfl rfl (gr_nm rfl) (one (k := 2) rfl a2 rfl rfl bs2 b2) rfl rfl rfl
  refine Dz.nx (cs_setN (ev_frz c) rfl rfl) ?_
  exact Dz.of (cs_ret (ev_tup (ev_args (ev_ix (ev_var rfl) ev_c rfl rfl) (ev_args (ev_ix (ev_var rfl) ev_c rfl rfl) (ev_args (ev_ix (ev_var rfl) ev_c rfl rfl) ev_args0 rfl) rfl) rfl)) rfl) ⟨rfl, rfl⟩
def mn (a b : Int) : Int := if b < a then b else a
def mx (a b : Int) : Int := if b > a then b else a
theorem box_of_ev (a b : A3) (h : List D) : m_law_box_of [tD a, tD b] h = some (.tup [.int (mn a.1 b.1), .int (mn a.2.1 b.2.1), .int (mn a.2.2 b.2.2), .int (mx a.1 b.1), .int (mx a.2.1 b.2.1), .int (mx a.2.2 b.2.2)], h) := by
  refine Dz.fnE rfl ?_
  unfold b_law_box_of
  have ma : ∀ {k i j : Int}, atI [D.int a.1, D.int a.2.1, D.int a.2.2] k = some (.int i) → atI [D.int b.1, D.int b.2.1, D.int b.2.2] k = some (.int j) → (E.blt F.min2 [(E.op O.ix (E.var 0) (E.var 3)), (E.op O.ix (E.var 1) (E.var 3))]) ⟨[.val (tD a), .val (tD b), .no, .val (.int k), .no], h⟩ = some (.int (mn i j), ⟨[.val (tD a), .val (tD b), .no, .val (.int k), .no], h⟩) := fun h1 h2 =>
    ev_blt2 (ev_args (ev_ix (ev_var (n := 0) (d := tD a) rfl) (ev_var rfl) rfl h1) (ev_args (ev_ix (ev_var (n := 1) (d := tD b) rfl) (ev_var rfl) rfl h2) ev_args0 rfl) rfl) lf_min2
  have mb : ∀ {L : D} {k i j : Int}, atI [D.int a.1, D.int a.2.1, D.int a.2.2] k = some (.int i) → atI [D.int b.1, D.int b.2.1, D.int b.2.2] k = some (.int j) → (E.blt F.max2 [(E.op O.ix (E.var 0) (E.var 3)), (E.op O.ix (E.var 1) (E.var 3))]) ⟨[.val (tD a), .val (tD b), .val L, .val (.int k), .no], h⟩ = some (.int (mx i j), ⟨[.val (tD a), .val (tD b), .val L, .val (.int k), .no], h⟩) := fun h1 h2 =>
    ev_blt2 (ev_args (ev_ix (ev_var (n := 0) (d := tD a) rfl) (ev_var rfl) rfl h1) (ev_args (ev_ix (ev_var (n := 1) (d := tD b) rfl) (ev_var rfl) rfl h2) ev_args0 rfl) rfl) lf_max2
  have c1 := ev_comp3 (g := G.nm 3) (vs := [3]) (z := ⟨[.val (tD a), .val (tD b), .no, .no, .no], h⟩) rng3 rfl rfl (gr_nm rfl) (ma (k := 0) rfl rfl) rfl rfl (gr_nm rfl) (ma (k := 1) rfl rfl) rfl rfl (gr_nm rfl) (ma (k := 2) rfl rfl) rfl rfl rfl
  refine Dz.nx (cs_setN (ev_frz c1) rfl rfl) ?_
  have c2 := ev_comp3 (g := G.nm 3) (vs := [3]) (z := ⟨[.val (tD a), .val (tD b), .val (.lst [.int (mn a.1 b.1), .int (mn a.2.1 b.2.1), .int (mn a.2.2 b.2.2)]), .no, .no], h⟩) rng3 rfl rfl (gr_nm rfl) (mb (k := 0) rfl rfl) rfl rfl (gr_nm rfl) (mb (k := 1) rfl rfl) rfl rfl (gr_nm rfl) (mb (k := 2) rfl rfl) rfl rfl rfl
  refine Dz.nx (cs_setN (ev_frz c2) rfl rfl) ?_
  exact Dz.of (cs_ret (ev_tup (ev_args (ev_ix (ev_var rfl) ev_c rfl rfl) (ev_args (ev_ix (ev_var rfl) ev_c rfl rfl) (ev_args (ev_ix (ev_var rfl) ev_c rfl rfl) (ev_args (ev_ix (ev_var rfl) ev_c rfl rfl) (ev_args (ev_ix (ev_var rfl) ev_c rfl rfl) (ev_args (ev_ix (ev_var rfl) ev_c rfl rfl) ev_args0 rfl) rfl) rfl) rfl) rfl) rfl)) rfl) ⟨rfl, rfl⟩
theorem middle_ev (a b : A3) (h : List D) : m_law_middle [tD a, tD b] h = some (tD ((a.1 + b.1) / 2, (a.2.1 + b.2.1) / 2, (a.2.2 + b.2.2) / 2), h) := by
  refine Dz.fnE rfl ?_
  unfold b_law_middle
  have ma : ∀ {k i j : Int}, atI [D.int a.1, D.int a.2.1, D.int a.2.2] k = some (.int i) → atI [D.int b.1, D.int b.2.1, D.int b.2.2] k = some (.int j) → (E.op O.div (E.blt F.int1 [(E.op O.add (E.op O.ix (E.var 0) (E.var 2)) (E.op O.ix (E.var 1) (E.var 2)))]) (E.c (.int 2))) ⟨[.val (tD a), .val (tD b), .val (.int k)], h⟩ = some (.int ((i + j) / 2), ⟨[.val (tD a), .val (tD b), .val (.int k)], h⟩) := fun h1 h2 =>
    ev_div (ev_blt1 (ev_add (ev_ix (ev_var (n := 0) (d := tD a) rfl) (ev_var rfl) rfl h1) (ev_ix (ev_var (n := 1) (d := tD b) rfl) (ev_var rfl) rfl h2)) lf_int1) ev_c (by decide) (Smn.nat (by decide)) (by decide)
  have c1 := ev_comp3 (g := G.nm 2) (vs := [2]) (z := ⟨[.val (tD a), .val (tD b), .no], h⟩) rng3 rfl rfl (gr_nm rfl) (ma (k := 0) rfl rfl) rfl rfl (gr_nm rfl) (ma (k := 1) rfl rfl) rfl rfl (gr_nm rfl) (ma (k := 2) rfl rfl) rfl rfl rfl
  exact Dz.of (cs_ret (ev_blt1 (ev_frz c1) (lf_tuple rfl rfl)) rfl) ⟨rfl, rfl⟩
def dbl (a : A3) : A3 := (2 * a.1, 2 * a.2.1, 2 * a.2.2)
theorem doubled_ev {p q r : A3} (hp : VB 64 p) (hq : VB 64 q) (hr : VB 64 r) (h : List D) : m_law_doubled [.tup [tD p, tD q, tD r]] h = some (.tup [tD (dbl p), tD (dbl q), tD (dbl r)], h) := by
  refine Dz.fnE rfl ?_
  unfold b_law_doubled st_law_doubled_1 cp_law_doubled1
  have one : ∀ {a : D} {i : Int}, Smn 64 i → (E.op O.mul (E.c (.int 2)) (E.var 1)) ⟨[.val (.tup [tD p, tD q, tD r]), .val (.int i), .val a], h⟩ = some (.int (2 * i), ⟨[.val (.tup [tD p, tD q, tD r]), .val (.int i), .val a], h⟩) := fun b => ev_mul ev_c (ev_var rfl) (Smn.nat (by decide)) b (by decide) (by decide)
  have row : ∀ {a : A3}, VB 64 a → (E.blt F.tuple [(E.frz (N.comp (I.seqC (E.var 2)) (G.nm 1) [1] (ret true) (E.op O.mul (E.c (.int 2)) (E.var 1))))]) ⟨[.val (.tup [tD p, tD q, tD r]), .no, .val (tD a)], h⟩ = some (tD (dbl a), ⟨[.val (.tup [tD p, tD q, tD r]), .no, .val (tD a)], h⟩) := fun {a} b =>
    ev_blt1 (ev_frz (ev_comp3 (ev_seqC (x := tD a) (ev_var rfl) rfl) rfl rfl (gr_nm rfl) (one b.1) rfl rfl (gr_nm rfl) (one b.2.1) rfl rfl (gr_nm rfl) (one b.2.2) rfl rfl rfl)) (lf_tuple rfl rfl)
  have c := ev_comp3 (g := G.nm 2) (vs := [2]) (mi := I.seqC (E.var 0)) (z := ⟨[.val (.tup [tD p, tD q, tD r]), .no, .no], h⟩) (ev_seqC (ev_var rfl) rfl) rfl rfl (gr_nm rfl) (row hp) rfl rfl (gr_nm rfl) (row hq) rfl rfl (gr_nm rfl) (row hr) rfl rfl rfl
  exact Dz.of (cs_ret (ev_blt1 (ev_frz c) (lf_tuple rfl rfl)) rfl) ⟨rfl, rfl⟩
end K24

set_option Elab.async false
set_option linter.all false
set_option maxRecDepth 100000
set_option maxHeartbeats 2000000
namespace K24
open PySem L2 Mi Sat
local macro_rules | `(tactic| wtm_at "leaf") => `(tactic| first
  | ((with_reducible apply lf_cont); rfl)
  | (with_reducible exact atI_zero)
  | ((with_reducible apply lf_dcont); rfl)
  | ((with_reducible apply lf_dcS); rfl)
  | ((with_reducible apply lf_dgetC); rfl)
  | ((with_reducible apply lf_keyD); rfl)
  | ((with_reducible apply lf_isDict); rfl)
  | ((with_reducible apply lf_dkeys); rfl)
  | ((with_reducible apply lf_atI); first | rfl | exact atI_zero)
  | ((with_reducible apply lf_get); rfl)
  | ((with_reducible apply lf_pure); rfl)
  | ((with_reducible apply lf_setAt); rfl)
  | ((with_reducible apply lf_tru); rfl)
  | ((with_reducible apply lf_lt); exact Nat.le_of_ble_eq_true rfl)
  | ((with_reducible apply lf_pos); first | assumption | decide | omega)
  | ((with_reducible apply lf_le); decide)
  | ((with_reducible apply lf_isNm); rfl)
  | ((with_reducible apply lf_notNm); rfl)
  | ((with_reducible apply lf_noScr); rfl)
  | ((with_reducible apply lf_noKt); rfl)
  | (with_reducible exact eqP_int)
  | (with_reducible exact lf_abs)
  | (with_reducible exact lf_int1)
  | (with_reducible exact lf_max2)
  | (with_reducible exact lf_min2)
  | (with_reducible apply lf_len)
  | (with_reducible apply lf_tuple)
  | (with_reducible apply lf_isi)
  | (with_reducible exact eqP_t3)
  | (with_reducible exact eqP_bl)
  | (with_reducible exact eqP_t2)
  | (with_reducible exact kb_tt)
  | (with_reducible exact kb_bb)
  | (with_reducible exact kb_ii)
  | (with_reducible exact kb_it)
  | (with_reducible exact kb_ib)
  | (with_reducible exact kb_bi)
  | (with_reducible exact kb_ll)
  | (with_reducible exact kb_ss)
  | ((with_reducible apply lf_isiK); with_unfolding_all decide)
  | ((with_reducible apply lf_ty); rfl)
  | ((with_reducible apply lf_bd); exact ⟨by decide, by decide⟩)
  | ((with_reducible apply lf_allO); rfl)
  | ((with_reducible apply lf_app); first | ((repeat (first | (with_reducible exact la_nil) | (with_reducible apply la_cons))); done) | rfl)
  | ((with_reducible apply lf_set); first | ((repeat (first | (with_reducible exact sl_z) | (with_reducible apply sl_s))); done) | rfl)
  | ((with_reducible apply lf_slots); first | ((repeat (first | (with_reducible exact se_nil) | (with_reducible apply se_cons) | (with_reducible apply ss_cons) | (with_reducible apply ss_nil))); done) | rfl)
  | (with_reducible exact sw_nil)
  | (with_reducible apply sw_cons)
  | ((with_reducible apply lf_wipe); rfl)
  | (with_reducible exact sr_nil)
  | (with_reducible apply sr_cons)
  | ((with_reducible apply lf_rest); rfl)
  | (with_reducible apply gr_nm)
  | (with_reducible exact gr_nil)
  | (with_reducible apply gr_cons)
  | (with_reducible apply gr_tp)
  | (with_reducible apply gr_tl)
  | ((with_reducible apply lf_run); first | (simp only [G.nm, G.tp, G.tl, G.runs, List.set_cons_succ, List.set_cons_zero]; done) | rfl)
  | ((with_reducible apply lf_len0); rfl)
  )
local macro_rules | `(tactic| wtm_at "sm") => `(tactic| first
  | ((with_reducible apply lf_smn); with_reducible assumption)
  | (with_reducible exact Smn.nat (by decide))
  | (with_reducible apply Smn.mul)
  | (with_reducible apply Smn.add)
  | (with_reducible apply Smn.sub)
  | (with_reducible apply Smn.neg)
  | (with_reducible apply Smn.ite)
  | (with_reducible apply Smn.div _ (by omega))
  | (with_reducible apply Smn.mod _ (by omega))
  | ((with_reducible refine Smn.of ?_); omega))
local macro_rules | `(tactic| wtm_at "nl") => `(tactic| first
  | (with_reducible apply ev_rng1)
  | (with_reducible apply ev_rng2)
  | (with_reducible apply nl_nil)
  | ((with_reducible apply lf_nl); first | apply nl_tN | apply nl_nil)
  | ((with_reducible apply lf_ok); rfl)
  | ((with_reducible apply lf_itm); rfl))
local macro_rules | `(tactic| wtm_at "e1") => `(tactic| first
  | (with_reducible intro _)
  | (with_reducible exact ev_c)
  | (with_reducible exact ev_args0)
  | (with_reducible exact ev_part0)
  | ((with_reducible apply ev_var); rfl)
  | ((with_reducible apply ev_varO); rfl)
  | (with_reducible apply ev_ix)
  | (with_reducible apply ev_dix)
  | (with_reducible apply ev_din)
  | (with_reducible apply ev_dnotIn)
  | (with_reducible apply ev_get1)
  | (with_reducible apply ev_get2)
  | (with_reducible apply ev_shrN)
  | (with_reducible apply ev_frzD)
  | (with_reducible exact ev_pairs0)
  | (with_reducible apply ev_pairs)
  | (with_reducible apply ev_dispK)
  | (with_reducible apply ev_sortedD)
  | (with_reducible apply ev_rev)
  | (with_reducible apply ev_cutT)
  | (with_reducible apply ev_catT)
  | (with_reducible apply ev_seqK)
  | (with_reducible apply ev_add)
  | (with_reducible apply ev_sub)
  | (with_reducible apply ev_mul)
  | (with_reducible apply ev_div)
  | (with_reducible apply ev_mod)
  | (with_reducible apply ev_neg)
  | (with_reducible apply ev_lt)
  | (with_reducible apply ev_le)
  | (with_reducible apply ev_gt)
  | (with_reducible apply ev_ge)
  | (with_reducible apply ev_eq)
  | (with_reducible apply ev_ne)
  | (with_reducible apply ev_isN)
  | (with_reducible apply ev_notN)
  | (with_reducible apply ev_args)
  | (with_reducible apply ev_tup)
  | (with_reducible apply ev_frz)
  | (with_reducible apply ev_shr)
  | (with_reducible apply ev_disp)
  | (with_reducible apply ev_blt1)
  | (with_reducible apply ev_blt2)
  | (with_reducible apply ev_un)
  | (with_reducible apply ev_and)
  | (with_reducible apply ev_or)
  | (with_reducible apply ev_not)
  | (with_reducible apply tv)
  | (with_reducible apply tt_tru)
  | (with_reducible apply tt_and)
  | (with_reducible apply tt_or)
  | (with_reducible apply tt_not)
  | (with_reducible apply ev_ofSeq)
  | (with_reducible apply ev_part)
  | (with_reducible apply ev_slice)
  | (with_reducible apply ev_compN)
  | (with_reducible exact ev_true)
  | wtm_at "nl"
  | (with_reducible apply ev_chain)
  | (with_reducible apply ev_call)
  | wtm_at "call"
  | wtm_at "leaf"
  | wtm_at "sm")
local macro_rules | `(tactic| wtm_at "ev") => `(tactic| repeat' wtm_at "e1")
local macro_rules | `(tactic| wtm_at "dec") => `(tactic| decide)
local macro_rules | `(tactic| wtm_at "s1") => `(tactic| first
  | (with_reducible exact cs_skip)
  | (with_reducible apply cs_setN)
  | (with_reducible apply cs_dputO)
  | (with_reducible apply cs_ownD)
  | (with_reducible apply cs_frzD)
  | (with_reducible apply cs_retD)
  | (with_reducible apply cs_ownN)
  | (with_reducible apply cs_frzN)
  | (with_reducible apply cs_augN)
  | (with_reducible apply ev_chgN)
  | (with_reducible apply cs_setIxN)
  | (with_reducible apply cs_drop)
  | (with_reducible apply cs_asg)
  | (with_reducible apply cs_ret)
  | wtm_at "e1")
local macro_rules | `(tactic| wtm_at "st") => `(tactic| repeat' wtm_at "s1")
local macro_rules | `(tactic| wtm_at "dz") => `(tactic| (with_reducible apply Dz.nx; · wtm_at "st"))
local macro_rules | `(tactic| wtm_at "di") => `(tactic| (with_reducible apply Dz.ite; · wtm_at "ev"))
def sel {α : Type} (o : Int) (x y z : α) : α := if o = 0 then x else if o = 1 then y else z
def Ix (o : Int) : Prop := o = 0 ∨ o = 1 ∨ o = 2
theorem sel_at {o : Int} {x y z : D} (h : Ix o) : atI [x, y, z] o = some (sel o x y z) := by
  rcases h with rfl | rfl | rfl <;> rfl
theorem sel_map {α β : Type} (f : α → β) (o : Int) (x y z : α) : sel o (f x) (f y) (f z) = f (sel o x y z) := by
  unfold sel
  split
  · rfl
  · split <;> rfl
def Perm (a b c : Int) : Prop := (a = 0 ∧ b = 1 ∧ c = 2) ∨ (a = 0 ∧ b = 2 ∧ c = 1) ∨ (a = 1 ∧ b = 0 ∧ c = 2) ∨ (a = 1 ∧ b = 2 ∧ c = 0) ∨ (a = 2 ∧ b = 0 ∧ c = 1) ∨ (a = 2 ∧ b = 1 ∧ c = 0)
theorem Perm.ix {a b c : Int} (h : Perm a b c) : Ix a ∧ Ix b ∧ Ix c := by
  unfold Perm at h
  unfold Ix
  omega
theorem perm_T {a b c : Int} (h : Perm a b c) (X Y W : Cd) : T (sel a X Y W) (sel b X Y W) (sel c X Y W) ↔ T X Y W := by
  rcases h with ⟨rfl, rfl, rfl⟩ | ⟨rfl, rfl, rfl⟩ | ⟨rfl, rfl, rfl⟩ | ⟨rfl, rfl, rfl⟩ | ⟨rfl, rfl, rfl⟩ | ⟨rfl, rfl, rfl⟩
  · exact Iff.rfl
  · exact ⟨fun t => T.swap (T.rot (T.rot t)), fun t => T.rot (T.swap t)⟩
  · exact ⟨T.swap, T.swap⟩
  · exact ⟨fun t => T.rot (T.rot t), T.rot⟩
  · exact ⟨T.rot, fun t => T.rot (T.rot t)⟩
  · exact ⟨fun t => T.rot (T.rot (T.swap t)), fun t => T.rot (T.rot (T.swap t))⟩
def pm (a b c : Int) (X : Cd) : Cd := ⟨sel a X.p0 X.p1 X.p2, sel b X.p0 X.p1 X.p2, sel c X.p0 X.p1 X.p2, X.l, X.h⟩
theorem perm_V {a b c : Int} (h : Perm a b c) (X Y W : Cd) : T (pm a b c X) (pm a b c Y) (pm a b c W) ↔ T X Y W := by
  rcases h with ⟨rfl, rfl, rfl⟩ | ⟨rfl, rfl, rfl⟩ | ⟨rfl, rfl, rfl⟩ | ⟨rfl, rfl, rfl⟩ | ⟨rfl, rfl, rfl⟩ | ⟨rfl, rfl, rfl⟩
  · exact Iff.rfl
  · show T X.x.r Y.x.r W.x.r ↔ _
    rw [T.r, T.x]
  · exact T.x
  · exact T.r
  · show T X.r.r Y.r.r W.r.r ↔ _
    rw [T.r, T.r]
  · show T X.x.r.r Y.x.r.r W.x.r.r ↔ _
    rw [T.r, T.r, T.x]
def rows6 : List D := [.lst [.int 0, .int 1, .int 2], .lst [.int 0, .int 2, .int 1], .lst [.int 1, .int 0, .int 2], .lst [.int 1, .int 2, .int 0], .lst [.int 2, .int 0, .int 1], .lst [.int 2, .int 1, .int 0]]
theorem pick6 {v : Nat} (h : v < 6) : ∃ a b c : Int, Perm a b c ∧ atI rows6 (v : Int) = some (.lst [.int a, .int b, .int c]) := by
  rcases (by omega : v = 0 ∨ v = 1 ∨ v = 2 ∨ v = 3 ∨ v = 4 ∨ v = 5) with rfl | rfl | rfl | rfl | rfl | rfl
  · exact ⟨0, 1, 2, by unfold Perm; decide, rfl⟩
  · exact ⟨0, 2, 1, by unfold Perm; decide, rfl⟩
  · exact ⟨1, 0, 2, by unfold Perm; decide, rfl⟩
  · exact ⟨1, 2, 0, by unfold Perm; decide, rfl⟩
  · exact ⟨2, 0, 1, by unfold Perm; decide, rfl⟩
  · exact ⟨2, 1, 0, by unfold Perm; decide, rfl⟩
theorem mv_box {X : Cd} {a s : Int} (h : X.l ≤ X.h) : mn (a * X.l + s) (a * X.h + s) = (X.mv a s).l ∧ mx (a * X.l + s) (a * X.h + s) = (X.mv a s).h := by
  unfold mn mx Cd.mv
  dsimp only
  by_cases c : 0 ≤ a
  · have := Int.mul_le_mul_of_nonneg_left h c
    rw [if_pos c, if_pos c]
    constructor <;> split <;> omega
  · have := Int.mul_le_mul_of_nonpos_left (show a ≤ 0 by omega) h
    rw [if_neg c, if_neg c]
    constructor <;> split <;> omega
/-- small numbers -/
structure CS (X : Cd) : Prop where
  a : Smn 6 X.p0
  b : Smn 6 X.p1
  c : Smn 6 X.p2
  l : Smn 6 X.l
  h : Smn 6 X.h
  o : X.l ≤ X.h
theorem CS.cb {X : Cd} (h : CS X) : CB X := ⟨h.a.mono (by decide), h.b.mono (by decide), h.c.mono (by decide), h.l.mono (by decide), h.h.mono (by decide)⟩
theorem smn_of {n : Nat} {i : Int} {m : Nat} (h : i.natAbs ≤ m) (h2 : m < 2 ^ n) : Smn n i := Nat.lt_of_le_of_lt h h2
theorem CS.sel {X Y W : Cd} (x : CS X) (y : CS Y) (w : CS W) (o : Int) : CS (sel o X Y W) := by
  unfold K24.sel
  split
  · exact x
  · split
    · exact y
    · exact w
theorem mv_smn {a s p : Int} (ha : Smn 13 a) (hs : Smn 21 s) (hp : Smn 6 p) : Smn 64 (a * p + s) := (Smn.add (Smn.mul ha hp) hs).mono (by decide)
theorem CS.mv {X : Cd} (x : CS X) {a s : Int} (ha : Smn 13 a) (hs : Smn 21 s) : CB (X.mv a s) := by
  refine ⟨mv_smn ha hs x.a, mv_smn ha hs x.b, mv_smn ha hs x.c, ?_, ?_⟩
  · unfold Cd.mv
    dsimp only
    split
    · exact mv_smn ha hs x.l
    · exact mv_smn ha hs x.h
  · unfold Cd.mv
    dsimp only
    split
    · exact mv_smn ha hs x.h
    · exact mv_smn ha hs x.l
theorem CB.pm {X : Cd} (x : CB X) (a b c : Int) : CB (pm a b c X) := by
  have k : ∀ o : Int, Smn 64 (K24.sel o X.p0 X.p1 X.p2) := fun o => by
    unfold K24.sel
    split
    · exact x.a
    · split
      · exact x.b
      · exact x.c
  exact ⟨k a, k b, k c, x.l, x.h⟩
theorem CS.wide {X : Cd} (x : CS X) {m n : Nat} (hm : m < 3) (hn : n < 3) : CB (X.wide m n) := by
  have k : ∀ {v : Nat}, v < 3 → Smn 6 (v : Int) := fun h => smn_of (m := 2) (by omega) (by decide)
  exact ⟨x.cb.a, x.cb.b, x.cb.c, (Smn.sub x.l (k hm)).mono (by decide), (Smn.add x.h (k hn)).mono (by decide)⟩
theorem two_smn {i : Int} (h : Smn 6 i) : Smn 64 (2 * i) := (Smn.mul (smn_of (n := 2) (m := 2) (by decide) (by decide)) h).mono (by decide)
theorem CS.one {X : Cd} (x : CS X) : CB X.one := ⟨two_smn x.a, (Smn.add x.a x.b).mono (by decide), two_smn x.c, two_smn x.l, two_smn x.h⟩
theorem CS.two {X : Cd} (x : CS X) : CB X.two := ⟨(Smn.add x.a x.b).mono (by decide), two_smn x.b, two_smn x.c, two_smn x.l, two_smn x.h⟩
end K24

set_option Elab.async false
set_option linter.all false
set_option maxRecDepth 100000
set_option maxHeartbeats 2000000
namespace K24
open PySem L2 Mi Sat
local macro_rules | `(tactic| wtm_at "leaf") => `(tactic| first
  | ((with_reducible apply lf_cont); rfl)
  | (with_reducible exact atI_zero)
  | ((with_reducible apply lf_dcont); rfl)
  | ((with_reducible apply lf_dcS); rfl)
  | ((with_reducible apply lf_dgetC); rfl)
  | ((with_reducible apply lf_keyD); rfl)
  | ((with_reducible apply lf_isDict); rfl)
  | ((with_reducible apply lf_dkeys); rfl)
  | ((with_reducible apply lf_atI); first | rfl | exact atI_zero)
  | ((with_reducible apply lf_get); rfl)
  | ((with_reducible apply lf_pure); rfl)
  | ((with_reducible apply lf_setAt); rfl)
  | ((with_reducible apply lf_tru); rfl)
  | ((with_reducible apply lf_lt); exact Nat.le_of_ble_eq_true rfl)
  | ((with_reducible apply lf_pos); first | assumption | decide | omega)
  | ((with_reducible apply lf_le); decide)
  | ((with_reducible apply lf_isNm); rfl)
  | ((with_reducible apply lf_notNm); rfl)
  | ((with_reducible apply lf_noScr); rfl)
  | ((with_reducible apply lf_noKt); rfl)
  | (with_reducible exact eqP_int)
  | (with_reducible exact lf_abs)
  | (with_reducible exact lf_int1)
  | (with_reducible exact lf_max2)
  | (with_reducible exact lf_min2)
  | (with_reducible apply lf_len)
  | (with_reducible apply lf_tuple)
  | (with_reducible apply lf_isi)
  | (with_reducible exact eqP_t3)
  | (with_reducible exact eqP_bl)
  | (with_reducible exact eqP_t2)
  | (with_reducible exact kb_tt)
  | (with_reducible exact kb_bb)
  | (with_reducible exact kb_ii)
  | (with_reducible exact kb_it)
  | (with_reducible exact kb_ib)
  | (with_reducible exact kb_bi)
  | (with_reducible exact kb_ll)
  | (with_reducible exact kb_ss)
  | ((with_reducible apply lf_isiK); with_unfolding_all decide)
  | ((with_reducible apply lf_ty); rfl)
  | ((with_reducible apply lf_bd); exact ⟨by decide, by decide⟩)
  | ((with_reducible apply lf_allO); rfl)
  | ((with_reducible apply lf_app); first | ((repeat (first | (with_reducible exact la_nil) | (with_reducible apply la_cons))); done) | rfl)
  | ((with_reducible apply lf_set); first | ((repeat (first | (with_reducible exact sl_z) | (with_reducible apply sl_s))); done) | rfl)
  | ((with_reducible apply lf_slots); first | ((repeat (first | (with_reducible exact se_nil) | (with_reducible apply se_cons) | (with_reducible apply ss_cons) | (with_reducible apply ss_nil))); done) | rfl)
  | (with_reducible exact sw_nil)
  | (with_reducible apply sw_cons)
  | ((with_reducible apply lf_wipe); rfl)
  | (with_reducible exact sr_nil)
  | (with_reducible apply sr_cons)
  | ((with_reducible apply lf_rest); rfl)
  | (with_reducible apply gr_nm)
  | (with_reducible exact gr_nil)
  | (with_reducible apply gr_cons)
  | (with_reducible apply gr_tp)
  | (with_reducible apply gr_tl)
  | ((with_reducible apply lf_run); first | (simp only [G.nm, G.tp, G.tl, G.runs, List.set_cons_succ, List.set_cons_zero]; done) | rfl)
  | ((with_reducible apply lf_len0); rfl)
  )
local macro_rules | `(tactic| wtm_at "sm") => `(tactic| first
  | ((with_reducible apply lf_smn); with_reducible assumption)
  | (with_reducible exact Smn.nat (by decide))
  | (with_reducible apply Smn.mul)
  | (with_reducible apply Smn.add)
  | (with_reducible apply Smn.sub)
  | (with_reducible apply Smn.neg)
  | (with_reducible apply Smn.ite)
  | (with_reducible apply Smn.div _ (by omega))
  | (with_reducible apply Smn.mod _ (by omega))
  | ((with_reducible refine Smn.of ?_); omega))
local macro_rules | `(tactic| wtm_at "nl") => `(tactic| first
  | (with_reducible apply ev_rng1)
  | (with_reducible apply ev_rng2)
  | (with_reducible apply nl_nil)
  | ((with_reducible apply lf_nl); first | apply nl_tN | apply nl_nil)
  | ((with_reducible apply lf_ok); rfl)
  | ((with_reducible apply lf_itm); rfl))
local macro_rules | `(tactic| wtm_at "e1") => `(tactic| first
  | (with_reducible intro _)
  | (with_reducible exact ev_c)
  | (with_reducible exact ev_args0)
  | (with_reducible exact ev_part0)
  | ((with_reducible apply ev_var); rfl)
  | ((with_reducible apply ev_varO); rfl)
  | (with_reducible apply ev_ix)
  | (with_reducible apply ev_dix)
  | (with_reducible apply ev_din)
  | (with_reducible apply ev_dnotIn)
  | (with_reducible apply ev_get1)
  | (with_reducible apply ev_get2)
  | (with_reducible apply ev_shrN)
  | (with_reducible apply ev_frzD)
  | (with_reducible exact ev_pairs0)
  | (with_reducible apply ev_pairs)
  | (with_reducible apply ev_dispK)
  | (with_reducible apply ev_sortedD)
  | (with_reducible apply ev_rev)
  | (with_reducible apply ev_cutT)
  | (with_reducible apply ev_catT)
  | (with_reducible apply ev_seqK)
  | (with_reducible apply ev_add)
  | (with_reducible apply ev_sub)
  | (with_reducible apply ev_mul)
  | (with_reducible apply ev_div)
  | (with_reducible apply ev_mod)
  | (with_reducible apply ev_neg)
  | (with_reducible apply ev_lt)
  | (with_reducible apply ev_le)
  | (with_reducible apply ev_gt)
  | (with_reducible apply ev_ge)
  | (with_reducible apply ev_eq)
  | (with_reducible apply ev_ne)
  | (with_reducible apply ev_isN)
  | (with_reducible apply ev_notN)
  | (with_reducible apply ev_args)
  | (with_reducible apply ev_tup)
  | (with_reducible apply ev_frz)
  | (with_reducible apply ev_shr)
  | (with_reducible apply ev_disp)
  | (with_reducible apply ev_blt1)
  | (with_reducible apply ev_blt2)
  | (with_reducible apply ev_un)
  | (with_reducible apply ev_and)
  | (with_reducible apply ev_or)
  | (with_reducible apply ev_not)
  | (with_reducible apply tv)
  | (with_reducible apply tt_tru)
  | (with_reducible apply tt_and)
  | (with_reducible apply tt_or)
  | (with_reducible apply tt_not)
  | (with_reducible apply ev_ofSeq)
  | (with_reducible apply ev_part)
  | (with_reducible apply ev_slice)
  | (with_reducible apply ev_compN)
  | (with_reducible exact ev_true)
  | wtm_at "nl"
  | (with_reducible apply ev_chain)
  | (with_reducible apply ev_call)
  | wtm_at "call"
  | wtm_at "leaf"
  | wtm_at "sm")
local macro_rules | `(tactic| wtm_at "ev") => `(tactic| repeat' wtm_at "e1")
local macro_rules | `(tactic| wtm_at "dec") => `(tactic| decide)
local macro_rules | `(tactic| wtm_at "s1") => `(tactic| first
  | (with_reducible exact cs_skip)
  | (with_reducible apply cs_setN)
  | (with_reducible apply cs_dputO)
  | (with_reducible apply cs_ownD)
  | (with_reducible apply cs_frzD)
  | (with_reducible apply cs_retD)
  | (with_reducible apply cs_ownN)
  | (with_reducible apply cs_frzN)
  | (with_reducible apply cs_augN)
  | (with_reducible apply ev_chgN)
  | (with_reducible apply cs_setIxN)
  | (with_reducible apply cs_drop)
  | (with_reducible apply cs_asg)
  | (with_reducible apply cs_ret)
  | wtm_at "e1")
local macro_rules | `(tactic| wtm_at "st") => `(tactic| repeat' wtm_at "s1")
local macro_rules | `(tactic| wtm_at "dz") => `(tactic| (with_reducible apply Dz.nx; · wtm_at "st"))
local macro_rules | `(tactic| wtm_at "di") => `(tactic| (with_reducible apply Dz.ite; · wtm_at "ev"))
theorem b_eq {a b : Bool} {p : Prop} (h1 : a = true ↔ p) (h2 : b = true ↔ p) : a = b := by
  cases a <;> cases b <;> simp_all
def six (m0 m1 m2 m3 m4 m5 : Nat) : D := .lst [.int m0, .int m1, .int m2, .int m3, .int m4, .int m5]

theorem rest_ev (Xs : D) {X Y W : Cd} (x : CS X) (y : CS Y) (w : CS W) (t : Mi.TS) : Dz (C.seq st_law_4 (C.seq st_law_5 (C.seq (C.set 6 (E.frz cp_law1)) (C.seq st_law_7 (C.seq (C.set 9 (E.frz cp_law2)) (C.seq st_law_9 (C.seq (C.set 11 (E.frz cp_law3)) (C.seq st_law_11 (C.seq st_law_12 (C.seq st_law_13 (C.seq st_law_14 (C.seq st_law_15 (C.seq st_law_16 (C.seq st_law_17 (C.seq st_law_18 (C.seq st_law_19 (C.seq st_law_20 (C.seq st_law_21 st_law_22)))))))))))))))))) ⟨[.val Xs, .val (.ref 0), .val (bxD X Y W), .val (trD X Y W), .no, .no, .no, .no, .no, .no, .no, .no, .no, .no, .no, .no, .no, .no, .no, .no, .no, .no, .no, .no, .no], tkH t⟩ fun f z => f = .rt (.bl true) := by
  obtain ⟨b0', e0, i0⟩ := touches_ev x.cb y.cb w.cb (tkH t)
  refine Dz.nx (z1 := ⟨[.val Xs, .val (.ref 0), .val (bxD X Y W), .val (trD X Y W), .val (.bl b0'), .no, .no, .no, .no, .no, .no, .no, .no, .no, .no, .no, .no, .no, .no, .no, .no, .no, .no, .no, .no], tkH t⟩) (cs_setN (ev_call (ev_args (ev_var rfl) (ev_args (ev_var rfl) ev_args0 rfl) rfl) e0) rfl rfl) ?_
  obtain ⟨v, t1, hv, e1⟩ := takeX t (many := 6) (by decide)
  obtain ⟨oa, ob, oc, ho, eo⟩ := pick6 hv
  obtain ⟨ia, ib, ic⟩ := ho.ix
  refine Dz.nx (z1 := ⟨[.val Xs, .val (.ref 0), .val (bxD X Y W), .val (trD X Y W), .val (.bl b0'), .val (.lst [.int oa, .int ob, .int oc]), .no, .no, .no, .no, .no, .no, .no, .no, .no, .no, .no, .no, .no, .no, .no, .no, .no, .no, .no], tkH t1⟩) (cs_setN (ev_ix (ev_frz (ev_disp (ev_args (ev_frz (ev_disp (ev_args ev_c (ev_args ev_c (ev_args ev_c ev_args0 rfl) rfl) rfl))) (ev_args (ev_frz (ev_disp (ev_args ev_c (ev_args ev_c (ev_args ev_c ev_args0 rfl) rfl) rfl))) (ev_args (ev_frz (ev_disp (ev_args ev_c (ev_args ev_c (ev_args ev_c ev_args0 rfl) rfl) rfl))) (ev_args (ev_frz (ev_disp (ev_args ev_c (ev_args ev_c (ev_args ev_c ev_args0 rfl) rfl) rfl))) (ev_args (ev_frz (ev_disp (ev_args ev_c (ev_args ev_c (ev_args ev_c ev_args0 rfl) rfl) rfl))) (ev_args (ev_frz (ev_disp (ev_args ev_c (ev_args ev_c (ev_args ev_c ev_args0 rfl) rfl) rfl))) (ev_args0) rfl) rfl) rfl) rfl) rfl) rfl))) (ev_call (ev_args (ev_var rfl) (ev_args ev_c ev_args0 rfl) rfl) e1) rfl eo) rfl rfl) ?_
  obtain ⟨v0, t2, hv0, f0⟩ := takeX t1 (many := 2) (by decide)
  obtain ⟨v1, t3, hv1, f1⟩ := takeX t2 (many := 2) (by decide)
  obtain ⟨v2, t4, hv2, f2⟩ := takeX t3 (many := 2) (by decide)
  have one1 : ∀ {k : Int} {t t' : Mi.TS} {v : Nat}, v < 2 → m_law_take [.ref 0, .int (2 : Nat)] (tkH t) = some (.int v, tkH t') → (E.op O.sub (E.c (.int 1)) (E.op O.mul (E.c (.int 2)) (E.call m_law_take [(E.var 1), (E.c (.int 2))]))) ⟨[.val Xs, .val (.ref 0), .val (bxD X Y W), .val (trD X Y W), .val (.bl b0'), .val (.lst [.int oa, .int ob, .int oc]), .no, .val (.int k), .no, .no, .no, .no, .no, .no, .no, .no, .no, .no, .no, .no, .no, .no, .no, .no, .no], tkH t⟩ = some (.int (1 - 2 * (v : Int)), ⟨[.val Xs, .val (.ref 0), .val (bxD X Y W), .val (trD X Y W), .val (.bl b0'), .val (.lst [.int oa, .int ob, .int oc]), .no, .val (.int k), .no, .no, .no, .no, .no, .no, .no, .no, .no, .no, .no, .no, .no, .no, .no, .no, .no], tkH t'⟩) := fun hv e => ev_sub ev_c (ev_mul ev_c (ev_call (ev_args (ev_var rfl) (ev_args ev_c ev_args0 rfl) rfl) e) (Smn.nat (by decide)) (Smn.of (by omega)) (by decide) (by decide))
  have c1 := ev_comp3 (g := G.nm 7) (vs := [7]) (z := ⟨[.val Xs, .val (.ref 0), .val (bxD X Y W), .val (trD X Y W), .val (.bl b0'), .val (.lst [.int oa, .int ob, .int oc]), .no, .no, .no, .no, .no, .no, .no, .no, .no, .no, .no, .no, .no, .no, .no, .no, .no, .no, .no], tkH t1⟩) rng3 rfl rfl (gr_nm rfl) (one1 hv0 f0) rfl rfl (gr_nm rfl) (one1 hv1 f1) rfl rfl (gr_nm rfl) (one1 hv2 f2) rfl rfl rfl
  obtain ⟨s0, hs0⟩ : ∃ s : Int, s = 1 - 2 * (v0 : Int) := ⟨_, rfl⟩
  obtain ⟨s1, hs1⟩ : ∃ s : Int, s = 1 - 2 * (v1 : Int) := ⟨_, rfl⟩
  obtain ⟨s2, hs2⟩ : ∃ s : Int, s = 1 - 2 * (v2 : Int) := ⟨_, rfl⟩
  rw [← hs0, ← hs1, ← hs2] at c1
  refine Dz.nx (z1 := ⟨[.val Xs, .val (.ref 0), .val (bxD X Y W), .val (trD X Y W), .val (.bl b0'), .val (.lst [.int oa, .int ob, .int oc]), .val (.lst [.int s0, .int s1, .int s2]), .no, .no, .no, .no, .no, .no, .no, .no, .no, .no, .no, .no, .no, .no, .no, .no, .no, .no], tkH t4⟩) (cs_setN (ev_frz c1) rfl rfl) ?_
  obtain ⟨u0, t5, hu0, g0⟩ := takeX t4 (many := 59) (by decide)
  obtain ⟨u1, t6, hu1, g1⟩ := takeX t5 (many := 17) (by decide)
  obtain ⟨tm, htm⟩ : ∃ s : Int, s = 1 + (u0 : Int) * (u1 : Int) := ⟨_, rfl⟩
  have htm2 : 1 ≤ tm ∧ tm ≤ 929 := by
    have k1 := Nat.mul_le_mul (show u0 ≤ 58 by omega) (show u1 ≤ 16 by omega)
    have k2 : (u0 : Int) * (u1 : Int) = ((u0 * u1 : Nat) : Int) := by rw [Int.natCast_mul]
    rw [k2] at htm
    omega
  refine Dz.nx (z1 := ⟨[.val Xs, .val (.ref 0), .val (bxD X Y W), .val (trD X Y W), .val (.bl b0'), .val (.lst [.int oa, .int ob, .int oc]), .val (.lst [.int s0, .int s1, .int s2]), .no, .val (.int tm), .no, .no, .no, .no, .no, .no, .no, .no, .no, .no, .no, .no, .no, .no, .no, .no], tkH t6⟩) ?_ ?_
  · rw [htm]
    exact cs_setN (ev_add ev_c (ev_mul (ev_call (ev_args (ev_var rfl) (ev_args ev_c ev_args0 rfl) rfl) g0) (ev_call (ev_args (ev_var rfl) (ev_args ev_c ev_args0 rfl) rfl) g1) (Smn.of (by omega)) (Smn.of (by omega)) (by decide) (by decide))) rfl rfl
  have one2 : ∀ (t : Mi.TS), ∃ (g : Int) (t' : Mi.TS), Smn 21 g ∧ ∀ k : Int, (E.op O.add (E.op O.sub (E.op O.mul (E.call m_law_take [(E.var 1), (E.c (.int 59))]) (E.c (.int 13000))) (E.op O.mul (E.call m_law_take [(E.var 1), (E.c (.int 59))]) (E.c (.int 11000)))) (E.call m_law_take [(E.var 1), (E.c (.int 59))])) ⟨[.val Xs, .val (.ref 0), .val (bxD X Y W), .val (trD X Y W), .val (.bl b0'), .val (.lst [.int oa, .int ob, .int oc]), .val (.lst [.int s0, .int s1, .int s2]), .val (.int k), .val (.int tm), .no, .no, .no, .no, .no, .no, .no, .no, .no, .no, .no, .no, .no, .no, .no, .no], tkH t⟩ = some (.int g, ⟨[.val Xs, .val (.ref 0), .val (bxD X Y W), .val (trD X Y W), .val (.bl b0'), .val (.lst [.int oa, .int ob, .int oc]), .val (.lst [.int s0, .int s1, .int s2]), .val (.int k), .val (.int tm), .no, .no, .no, .no, .no, .no, .no, .no, .no, .no, .no, .no, .no, .no, .no, .no], tkH t'⟩) := fun t => by
    obtain ⟨a, ta, ha, ea⟩ := takeX t (many := 59) (by decide)
    obtain ⟨b, tb, hb, eb⟩ := takeX ta (many := 59) (by decide)
    obtain ⟨c, tc, hc, ec⟩ := takeX tb (many := 59) (by decide)
    exact ⟨(a : Int) * 13000 - (b : Int) * 11000 + c, tc, smn_of (m := 2000000) (by omega) (by decide), fun k => ev_add (ev_sub (ev_mul (ev_call (ev_args (ev_var rfl) (ev_args ev_c ev_args0 rfl) rfl) ea) ev_c (Smn.of (by omega)) (Smn.nat (by decide)) (by decide) (by decide)) (ev_mul (ev_call (ev_args (ev_var rfl) (ev_args ev_c ev_args0 rfl) rfl) eb) ev_c (Smn.of (by omega)) (Smn.nat (by decide)) (by decide) (by decide))) (ev_call (ev_args (ev_var rfl) (ev_args ev_c ev_args0 rfl) rfl) ec)⟩
  obtain ⟨h0, t7, bh0, j0⟩ := one2 t6
  obtain ⟨h1, t8, bh1, j1⟩ := one2 t7
  obtain ⟨h2, t9, bh2, j2⟩ := one2 t8
  have c2 := ev_comp3 (g := G.nm 7) (vs := [7]) (z := ⟨[.val Xs, .val (.ref 0), .val (bxD X Y W), .val (trD X Y W), .val (.bl b0'), .val (.lst [.int oa, .int ob, .int oc]), .val (.lst [.int s0, .int s1, .int s2]), .no, .val (.int tm), .no, .no, .no, .no, .no, .no, .no, .no, .no, .no, .no, .no, .no, .no, .no, .no], tkH t6⟩) rng3 rfl rfl (gr_nm rfl) (j0 0) rfl rfl (gr_nm rfl) (j1 1) rfl rfl (gr_nm rfl) (j2 2) rfl rfl rfl
  refine Dz.nx (z1 := ⟨[.val Xs, .val (.ref 0), .val (bxD X Y W), .val (trD X Y W), .val (.bl b0'), .val (.lst [.int oa, .int ob, .int oc]), .val (.lst [.int s0, .int s1, .int s2]), .no, .val (.int tm), .val (.lst [.int h0, .int h1, .int h2]), .no, .no, .no, .no, .no, .no, .no, .no, .no, .no, .no, .no, .no, .no, .no], tkH t9⟩) (cs_setN (ev_frz c2) rfl rfl) ?_
  clear one1 one2 j0 j1 j2 c1 c2
  have ns0 : s0 ≠ 0 := by omega
  have ns1 : s1 ≠ 0 := by omega
  have ns2 : s2 ≠ 0 := by omega
  have bs : ∀ {s : Int} {v : Nat}, v < 2 → s = 1 - 2 * (v : Int) → Smn 2 s := fun h e => smn_of (m := 1) (by omega) (by decide)
  have b0 := bs hv0 hs0
  have b1 := bs hv1 hs1
  have b2 := bs hv2 hs2
  have btm : Smn 11 tm := smn_of (m := 929) (by omega) (by decide)
  have mv : ∀ (x0 x1 x2 : Int) (h : List D), Smn 6 x0 → Smn 6 x1 → Smn 6 x2 → m_law_moved [.tup [.int x0, .int x1, .int x2], .lst [.int oa, .int ob, .int oc], .lst [.int s0, .int s1, .int s2], .int tm, .lst [.int h0, .int h1, .int h2]] h = some (tD (s0 * tm * sel oa x0 x1 x2 + h0, s1 * tm * sel ob x0 x1 x2 + h1, s2 * tm * sel oc x0 x1 x2 + h2), h) := fun x0 x1 x2 h k0 k1 k2 => by
    have ss : ∀ o : Int, Smn 64 (sel o x0 x1 x2) := fun o => by
      unfold sel
      split
      · exact k0.mono (by decide)
      · split
        · exact k1.mono (by decide)
        · exact k2.mono (by decide)
    exact moved_ev (by rw [sel_at ia, sel_map D.int]) (by rw [sel_at ib, sel_map D.int]) (by rw [sel_at ic, sel_map D.int]) (b0.mono (by decide)) (b1.mono (by decide)) (b2.mono (by decide)) (btm.mono (by decide)) (ss _) (ss _) (ss _) h
  have cut1 : (E.cutT (E.var 2) none (some (E.c (.int 3)))) ⟨[.val Xs, .val (.ref 0), .val (bxD X Y W), .val (trD X Y W), .val (.bl b0'), .val (.lst [.int oa, .int ob, .int oc]), .val (.lst [.int s0, .int s1, .int s2]), .no, .val (.int tm), .val (.lst [.int h0, .int h1, .int h2]), .no, .no, .no, .no, .no, .no, .no, .no, .no, .no, .no, .no, .no, .no, .no], tkH t9⟩ = some (.tup [.int X.l, .int Y.l, .int W.l], ⟨[.val Xs, .val (.ref 0), .val (bxD X Y W), .val (trD X Y W), .val (.bl b0'), .val (.lst [.int oa, .int ob, .int oc]), .val (.lst [.int s0, .int s1, .int s2]), .no, .val (.int tm), .val (.lst [.int h0, .int h1, .int h2]), .no, .no, .no, .no, .no, .no, .no, .no, .no, .no, .no, .no, .no, .no, .no], tkH t9⟩) := ev_cutT (ds := [.int X.l, .int Y.l, .int W.l, .int X.h, .int Y.h, .int W.h]) (ev_var rfl) ev_part0 (ev_part ev_c) (fun c => absurd c.2 (show ¬ HT.sIx 6 6 (some 3) = 6 by decide))
  have cut2 : (E.cutT (E.var 2) (some (E.c (.int 3))) none) ⟨[.val Xs, .val (.ref 0), .val (bxD X Y W), .val (trD X Y W), .val (.bl b0'), .val (.lst [.int oa, .int ob, .int oc]), .val (.lst [.int s0, .int s1, .int s2]), .no, .val (.int tm), .val (.lst [.int h0, .int h1, .int h2]), .no, .no, .no, .no, .no, .no, .no, .no, .no, .no, .no, .no, .no, .no, .no], tkH t9⟩ = some (.tup [.int X.h, .int Y.h, .int W.h], ⟨[.val Xs, .val (.ref 0), .val (bxD X Y W), .val (trD X Y W), .val (.bl b0'), .val (.lst [.int oa, .int ob, .int oc]), .val (.lst [.int s0, .int s1, .int s2]), .no, .val (.int tm), .val (.lst [.int h0, .int h1, .int h2]), .no, .no, .no, .no, .no, .no, .no, .no, .no, .no, .no, .no, .no, .no, .no], tkH t9⟩) := ev_cutT (ds := [.int X.l, .int Y.l, .int W.l, .int X.h, .int Y.h, .int W.h]) (ev_var rfl) (ev_part ev_c) ev_part0 (fun c => absurd c.1 (show ¬ HT.sIx 6 0 (some 3) = 0 by decide))
  refine Dz.nx (z1 := ⟨[.val Xs, .val (.ref 0), .val (bxD X Y W), .val (trD X Y W), .val (.bl b0'), .val (.lst [.int oa, .int ob, .int oc]), .val (.lst [.int s0, .int s1, .int s2]), .no, .val (.int tm), .val (.lst [.int h0, .int h1, .int h2]), .val (.lst [tD (s0 * tm * sel oa X.l Y.l W.l + h0, s1 * tm * sel ob X.l Y.l W.l + h1, s2 * tm * sel oc X.l Y.l W.l + h2), tD (s0 * tm * sel oa X.h Y.h W.h + h0, s1 * tm * sel ob X.h Y.h W.h + h1, s2 * tm * sel oc X.h Y.h W.h + h2)]), .no, .no, .no, .no, .no, .no, .no, .no, .no, .no, .no, .no, .no, .no], tkH t9⟩) (cs_setN (ev_frz (ev_disp (ev_args (ev_call (ev_args cut1 (ev_args (ev_var rfl) (ev_args (ev_var rfl) (ev_args (ev_var rfl) (ev_args (ev_var rfl) ev_args0 rfl) rfl) rfl) rfl) rfl) (mv X.l Y.l W.l _ x.l y.l w.l)) (ev_args (ev_call (ev_args cut2 (ev_args (ev_var rfl) (ev_args (ev_var rfl) (ev_args (ev_var rfl) (ev_args (ev_var rfl) ev_args0 rfl) rfl) rfl) rfl) rfl) (mv X.h Y.h W.h _ x.h y.h w.h)) ev_args0 rfl) rfl))) rfl rfl) ?_
  have one3 : ∀ {a b c : Int}, Smn 6 a → Smn 6 b → Smn 6 c → (E.call m_law_moved [(E.var 12), (E.var 5), (E.var 6), (E.var 8), (E.var 9)]) ⟨[.val Xs, .val (.ref 0), .val (bxD X Y W), .val (trD X Y W), .val (.bl b0'), .val (.lst [.int oa, .int ob, .int oc]), .val (.lst [.int s0, .int s1, .int s2]), .no, .val (.int tm), .val (.lst [.int h0, .int h1, .int h2]), .val (.lst [tD (s0 * tm * sel oa X.l Y.l W.l + h0, s1 * tm * sel ob X.l Y.l W.l + h1, s2 * tm * sel oc X.l Y.l W.l + h2), tD (s0 * tm * sel oa X.h Y.h W.h + h0, s1 * tm * sel ob X.h Y.h W.h + h1, s2 * tm * sel oc X.h Y.h W.h + h2)]), .no, .val (.tup [.int a, .int b, .int c]), .no, .no, .no, .no, .no, .no, .no, .no, .no, .no, .no, .no], tkH t9⟩ = some (tD (s0 * tm * sel oa a b c + h0, s1 * tm * sel ob a b c + h1, s2 * tm * sel oc a b c + h2), ⟨[.val Xs, .val (.ref 0), .val (bxD X Y W), .val (trD X Y W), .val (.bl b0'), .val (.lst [.int oa, .int ob, .int oc]), .val (.lst [.int s0, .int s1, .int s2]), .no, .val (.int tm), .val (.lst [.int h0, .int h1, .int h2]), .val (.lst [tD (s0 * tm * sel oa X.l Y.l W.l + h0, s1 * tm * sel ob X.l Y.l W.l + h1, s2 * tm * sel oc X.l Y.l W.l + h2), tD (s0 * tm * sel oa X.h Y.h W.h + h0, s1 * tm * sel ob X.h Y.h W.h + h1, s2 * tm * sel oc X.h Y.h W.h + h2)]), .no, .val (.tup [.int a, .int b, .int c]), .no, .no, .no, .no, .no, .no, .no, .no, .no, .no, .no, .no], tkH t9⟩) := fun ka kb kc => ev_call (ev_args (ev_var rfl) (ev_args (ev_var rfl) (ev_args (ev_var rfl) (ev_args (ev_var rfl) (ev_args (ev_var rfl) ev_args0 rfl) rfl) rfl) rfl) rfl) (mv _ _ _ _ ka kb kc)
  have c3 := ev_comp3 (g := G.nm 12) (vs := [12]) (mi := I.seqC (E.var 3)) (z := ⟨[.val Xs, .val (.ref 0), .val (bxD X Y W), .val (trD X Y W), .val (.bl b0'), .val (.lst [.int oa, .int ob, .int oc]), .val (.lst [.int s0, .int s1, .int s2]), .no, .val (.int tm), .val (.lst [.int h0, .int h1, .int h2]), .val (.lst [tD (s0 * tm * sel oa X.l Y.l W.l + h0, s1 * tm * sel ob X.l Y.l W.l + h1, s2 * tm * sel oc X.l Y.l W.l + h2), tD (s0 * tm * sel oa X.h Y.h W.h + h0, s1 * tm * sel ob X.h Y.h W.h + h1, s2 * tm * sel oc X.h Y.h W.h + h2)]), .no, .no, .no, .no, .no, .no, .no, .no, .no, .no, .no, .no, .no, .no], tkH t9⟩) (ev_seqC (x := trD X Y W) (ev_var rfl) rfl) rfl rfl (gr_nm rfl) (one3 x.a y.a w.a) rfl rfl (gr_nm rfl) (one3 x.b y.b w.b) rfl rfl (gr_nm rfl) (one3 x.c y.c w.c) rfl rfl rfl
  refine Dz.nx (z1 := ⟨[.val Xs, .val (.ref 0), .val (bxD X Y W), .val (trD X Y W), .val (.bl b0'), .val (.lst [.int oa, .int ob, .int oc]), .val (.lst [.int s0, .int s1, .int s2]), .no, .val (.int tm), .val (.lst [.int h0, .int h1, .int h2]), .val (.lst [tD (s0 * tm * sel oa X.l Y.l W.l + h0, s1 * tm * sel ob X.l Y.l W.l + h1, s2 * tm * sel oc X.l Y.l W.l + h2), tD (s0 * tm * sel oa X.h Y.h W.h + h0, s1 * tm * sel ob X.h Y.h W.h + h1, s2 * tm * sel oc X.h Y.h W.h + h2)]), .val (.lst [tD (s0 * tm * sel oa X.p0 Y.p0 W.p0 + h0, s1 * tm * sel ob X.p0 Y.p0 W.p0 + h1, s2 * tm * sel oc X.p0 Y.p0 W.p0 + h2), tD (s0 * tm * sel oa X.p1 Y.p1 W.p1 + h0, s1 * tm * sel ob X.p1 Y.p1 W.p1 + h1, s2 * tm * sel oc X.p1 Y.p1 W.p1 + h2), tD (s0 * tm * sel oa X.p2 Y.p2 W.p2 + h0, s1 * tm * sel ob X.p2 Y.p2 W.p2 + h1, s2 * tm * sel oc X.p2 Y.p2 W.p2 + h2)]), .no, .no, .no, .no, .no, .no, .no, .no, .no, .no, .no, .no, .no], tkH t9⟩) (cs_setN (ev_frz c3) rfl rfl) ?_
  clear one3 c3 mv
  obtain ⟨v', t10, hv', e10⟩ := takeX t9 (many := 6) (by decide)
  obtain ⟨ua, ub, uc, hu, eu⟩ := pick6 hv'
  obtain ⟨ja, jb, jc⟩ := hu.ix
  refine Dz.nx (z1 := ⟨[.val Xs, .val (.ref 0), .val (bxD X Y W), .val (trD X Y W), .val (.bl b0'), .val (.lst [.int oa, .int ob, .int oc]), .val (.lst [.int s0, .int s1, .int s2]), .no, .val (.int tm), .val (.lst [.int h0, .int h1, .int h2]), .val (.lst [tD (s0 * tm * sel oa X.l Y.l W.l + h0, s1 * tm * sel ob X.l Y.l W.l + h1, s2 * tm * sel oc X.l Y.l W.l + h2), tD (s0 * tm * sel oa X.h Y.h W.h + h0, s1 * tm * sel ob X.h Y.h W.h + h1, s2 * tm * sel oc X.h Y.h W.h + h2)]), .val (.lst [tD (s0 * tm * sel oa X.p0 Y.p0 W.p0 + h0, s1 * tm * sel ob X.p0 Y.p0 W.p0 + h1, s2 * tm * sel oc X.p0 Y.p0 W.p0 + h2), tD (s0 * tm * sel oa X.p1 Y.p1 W.p1 + h0, s1 * tm * sel ob X.p1 Y.p1 W.p1 + h1, s2 * tm * sel oc X.p1 Y.p1 W.p1 + h2), tD (s0 * tm * sel oa X.p2 Y.p2 W.p2 + h0, s1 * tm * sel ob X.p2 Y.p2 W.p2 + h1, s2 * tm * sel oc X.p2 Y.p2 W.p2 + h2)]), .no, .val (.lst [.int ua, .int ub, .int uc]), .no, .no, .no, .no, .no, .no, .no, .no, .no, .no, .no], tkH t10⟩) (cs_setN (ev_ix (ev_frz (ev_disp (ev_args (ev_frz (ev_disp (ev_args ev_c (ev_args ev_c (ev_args ev_c ev_args0 rfl) rfl) rfl))) (ev_args (ev_frz (ev_disp (ev_args ev_c (ev_args ev_c (ev_args ev_c ev_args0 rfl) rfl) rfl))) (ev_args (ev_frz (ev_disp (ev_args ev_c (ev_args ev_c (ev_args ev_c ev_args0 rfl) rfl) rfl))) (ev_args (ev_frz (ev_disp (ev_args ev_c (ev_args ev_c (ev_args ev_c ev_args0 rfl) rfl) rfl))) (ev_args (ev_frz (ev_disp (ev_args ev_c (ev_args ev_c (ev_args ev_c ev_args0 rfl) rfl) rfl))) (ev_args (ev_frz (ev_disp (ev_args ev_c (ev_args ev_c (ev_args ev_c ev_args0 rfl) rfl) rfl))) (ev_args0) rfl) rfl) rfl) rfl) rfl) rfl))) (ev_call (ev_args (ev_var rfl) (ev_args ev_c ev_args0 rfl) rfl) e10) rfl eu) rfl rfl) ?_
  obtain ⟨X', hX'⟩ : ∃ C : Cd, C = pm ua ub uc ((sel oa X Y W).mv (s0 * tm) h0) := ⟨_, rfl⟩
  obtain ⟨Y', hY'⟩ : ∃ C : Cd, C = pm ua ub uc ((sel ob X Y W).mv (s1 * tm) h1) := ⟨_, rfl⟩
  obtain ⟨W', hW'⟩ : ∃ C : Cd, C = pm ua ub uc ((sel oc X Y W).mv (s2 * tm) h2) := ⟨_, rfl⟩
  have sm : ∀ {s : Int}, Smn 2 s → Smn 13 (s * tm) := fun h => Smn.mul h btm
  have sp0 : ∀ o : Int, sel o X.p0 Y.p0 W.p0 = (sel o X Y W).p0 := fun o => sel_map Cd.p0 o X Y W
  have sp1 : ∀ o : Int, sel o X.p1 Y.p1 W.p1 = (sel o X Y W).p1 := fun o => sel_map Cd.p1 o X Y W
  have sp2 : ∀ o : Int, sel o X.p2 Y.p2 W.p2 = (sel o X Y W).p2 := fun o => sel_map Cd.p2 o X Y W
  have sl : ∀ o : Int, sel o X.l Y.l W.l = (sel o X Y W).l := fun o => sel_map Cd.l o X Y W
  have sh : ∀ o : Int, sel o X.h Y.h W.h = (sel o X Y W).h := fun o => sel_map Cd.h o X Y W
  have bX : CB X' := by rw [hX']; exact ((x.sel y w oa).mv (sm b0) bh0).pm ua ub uc
  have bY : CB Y' := by rw [hY']; exact ((x.sel y w ob).mv (sm b1) bh1).pm ua ub uc
  have bW : CB W' := by rw [hW']; exact ((x.sel y w oc).mv (sm b2) bh2).pm ua ub uc
  have other : ∀ {u : Int}, D.tup [.int (sel u ((sel oa X Y W).mv (s0 * tm) h0).p0 ((sel oa X Y W).mv (s0 * tm) h0).p1 ((sel oa X Y W).mv (s0 * tm) h0).p2), .int (sel u ((sel ob X Y W).mv (s1 * tm) h1).p0 ((sel ob X Y W).mv (s1 * tm) h1).p1 ((sel ob X Y W).mv (s1 * tm) h1).p2), .int (sel u ((sel oc X Y W).mv (s2 * tm) h2).p0 ((sel oc X Y W).mv (s2 * tm) h2).p1 ((sel oc X Y W).mv (s2 * tm) h2).p2)] = sel u (tD (s0 * tm * sel oa X.p0 Y.p0 W.p0 + h0, s1 * tm * sel ob X.p0 Y.p0 W.p0 + h1, s2 * tm * sel oc X.p0 Y.p0 W.p0 + h2)) (tD (s0 * tm * sel oa X.p1 Y.p1 W.p1 + h0, s1 * tm * sel ob X.p1 Y.p1 W.p1 + h1, s2 * tm * sel oc X.p1 Y.p1 W.p1 + h2)) (tD (s0 * tm * sel oa X.p2 Y.p2 W.p2 + h0, s1 * tm * sel ob X.p2 Y.p2 W.p2 + h1, s2 * tm * sel oc X.p2 Y.p2 W.p2 + h2)) := fun {u} => by
    rw [sp0, sp0, sp0, sp1, sp1, sp1, sp2, sp2, sp2]
    unfold sel
    split
    · rfl
    · split <;> rfl
  refine Dz.nx (z1 := ⟨[.val Xs, .val (.ref 0), .val (bxD X Y W), .val (trD X Y W), .val (.bl b0'), .val (.lst [.int oa, .int ob, .int oc]), .val (.lst [.int s0, .int s1, .int s2]), .no, .val (.int tm), .val (.lst [.int h0, .int h1, .int h2]), .val (.lst [tD (s0 * tm * sel oa X.l Y.l W.l + h0, s1 * tm * sel ob X.l Y.l W.l + h1, s2 * tm * sel oc X.l Y.l W.l + h2), tD (s0 * tm * sel oa X.h Y.h W.h + h0, s1 * tm * sel ob X.h Y.h W.h + h1, s2 * tm * sel oc X.h Y.h W.h + h2)]), .val (.lst [tD (s0 * tm * sel oa X.p0 Y.p0 W.p0 + h0, s1 * tm * sel ob X.p0 Y.p0 W.p0 + h1, s2 * tm * sel oc X.p0 Y.p0 W.p0 + h2), tD (s0 * tm * sel oa X.p1 Y.p1 W.p1 + h0, s1 * tm * sel ob X.p1 Y.p1 W.p1 + h1, s2 * tm * sel oc X.p1 Y.p1 W.p1 + h2), tD (s0 * tm * sel oa X.p2 Y.p2 W.p2 + h0, s1 * tm * sel ob X.p2 Y.p2 W.p2 + h1, s2 * tm * sel oc X.p2 Y.p2 W.p2 + h2)]), .no, .val (.lst [.int ua, .int ub, .int uc]), .val (trD X' Y' W'), .no, .no, .no, .no, .no, .no, .no, .no, .no, .no], tkH t10⟩) ?_ ?_
  · have et : trD X' Y' W' = .tup [sel ua (tD (s0 * tm * sel oa X.p0 Y.p0 W.p0 + h0, s1 * tm * sel ob X.p0 Y.p0 W.p0 + h1, s2 * tm * sel oc X.p0 Y.p0 W.p0 + h2)) (tD (s0 * tm * sel oa X.p1 Y.p1 W.p1 + h0, s1 * tm * sel ob X.p1 Y.p1 W.p1 + h1, s2 * tm * sel oc X.p1 Y.p1 W.p1 + h2)) (tD (s0 * tm * sel oa X.p2 Y.p2 W.p2 + h0, s1 * tm * sel ob X.p2 Y.p2 W.p2 + h1, s2 * tm * sel oc X.p2 Y.p2 W.p2 + h2)), sel ub (tD (s0 * tm * sel oa X.p0 Y.p0 W.p0 + h0, s1 * tm * sel ob X.p0 Y.p0 W.p0 + h1, s2 * tm * sel oc X.p0 Y.p0 W.p0 + h2)) (tD (s0 * tm * sel oa X.p1 Y.p1 W.p1 + h0, s1 * tm * sel ob X.p1 Y.p1 W.p1 + h1, s2 * tm * sel oc X.p1 Y.p1 W.p1 + h2)) (tD (s0 * tm * sel oa X.p2 Y.p2 W.p2 + h0, s1 * tm * sel ob X.p2 Y.p2 W.p2 + h1, s2 * tm * sel oc X.p2 Y.p2 W.p2 + h2)), sel uc (tD (s0 * tm * sel oa X.p0 Y.p0 W.p0 + h0, s1 * tm * sel ob X.p0 Y.p0 W.p0 + h1, s2 * tm * sel oc X.p0 Y.p0 W.p0 + h2)) (tD (s0 * tm * sel oa X.p1 Y.p1 W.p1 + h0, s1 * tm * sel ob X.p1 Y.p1 W.p1 + h1, s2 * tm * sel oc X.p1 Y.p1 W.p1 + h2)) (tD (s0 * tm * sel oa X.p2 Y.p2 W.p2 + h0, s1 * tm * sel ob X.p2 Y.p2 W.p2 + h1, s2 * tm * sel oc X.p2 Y.p2 W.p2 + h2))] := by
      rw [← other, ← other, ← other, hX', hY', hW']
      rfl
    rw [et]
    have pp : ∀ {u : Int}, isPure (sel u (tD (s0 * tm * sel oa X.p0 Y.p0 W.p0 + h0, s1 * tm * sel ob X.p0 Y.p0 W.p0 + h1, s2 * tm * sel oc X.p0 Y.p0 W.p0 + h2)) (tD (s0 * tm * sel oa X.p1 Y.p1 W.p1 + h0, s1 * tm * sel ob X.p1 Y.p1 W.p1 + h1, s2 * tm * sel oc X.p1 Y.p1 W.p1 + h2)) (tD (s0 * tm * sel oa X.p2 Y.p2 W.p2 + h0, s1 * tm * sel ob X.p2 Y.p2 W.p2 + h1, s2 * tm * sel oc X.p2 Y.p2 W.p2 + h2))) = true := fun {u} => by rw [← other]; rfl
    exact cs_setN (ev_tup (ev_args (ev_ix (ev_var (n := 11) rfl) (ev_ix (d := .int ua) (ev_var (n := 13) rfl) ev_c rfl rfl) rfl (sel_at ja)) (ev_args (ev_ix (ev_var (n := 11) rfl) (ev_ix (d := .int ub) (ev_var (n := 13) rfl) ev_c rfl rfl) rfl (sel_at jb)) (ev_args (ev_ix (ev_var (n := 11) rfl) (ev_ix (d := .int uc) (ev_var (n := 13) rfl) ev_c rfl rfl) rfl (sel_at jc)) ev_args0 pp) pp) pp)) rfl rfl
  obtain ⟨b1', e1', i1'⟩ := touches_ev bX bY bW (tkH t10)
  have same : b1' = b0' := by
    refine b_eq i1' ?_
    rw [i0, hX', hY', hW', perm_V hu, T.mv (Int.mul_ne_zero ns0 (by omega)) (Int.mul_ne_zero ns1 (by omega)) (Int.mul_ne_zero ns2 (by omega)), perm_T ho]
  have bo := box_of_ev (s0 * tm * sel oa X.l Y.l W.l + h0, s1 * tm * sel ob X.l Y.l W.l + h1, s2 * tm * sel oc X.l Y.l W.l + h2) (s0 * tm * sel oa X.h Y.h W.h + h0, s1 * tm * sel ob X.h Y.h W.h + h1, s2 * tm * sel oc X.h Y.h W.h + h2) (tkH t10)
  dsimp only at bo
  have eb : D.tup [.int (mn (s0 * tm * sel oa X.l Y.l W.l + h0) (s0 * tm * sel oa X.h Y.h W.h + h0)), .int (mn (s1 * tm * sel ob X.l Y.l W.l + h1) (s1 * tm * sel ob X.h Y.h W.h + h1)), .int (mn (s2 * tm * sel oc X.l Y.l W.l + h2) (s2 * tm * sel oc X.h Y.h W.h + h2)), .int (mx (s0 * tm * sel oa X.l Y.l W.l + h0) (s0 * tm * sel oa X.h Y.h W.h + h0)), .int (mx (s1 * tm * sel ob X.l Y.l W.l + h1) (s1 * tm * sel ob X.h Y.h W.h + h1)), .int (mx (s2 * tm * sel oc X.l Y.l W.l + h2) (s2 * tm * sel oc X.h Y.h W.h + h2))] = bxD X' Y' W' := by
    rw [sl, sl, sl, sh, sh, sh, (mv_box (x.sel y w oa).o).1, (mv_box (x.sel y w ob).o).1, (mv_box (x.sel y w oc).o).1, (mv_box (x.sel y w oa).o).2, (mv_box (x.sel y w ob).o).2, (mv_box (x.sel y w oc).o).2, hX', hY', hW']
    rfl
  rw [eb] at bo
  refine Dz.nx (cs_iteF (tv (ev_ne (kk := true) (x := .bl b1') (y := .bl b0') (ev_call (ev_args (ev_call (ev_args (ev_ix (ev_var (n := 10) rfl) ev_c rfl rfl) (ev_args (ev_ix (ev_var (n := 10) rfl) ev_c rfl rfl) ev_args0 rfl) rfl) bo) (ev_args (ev_var rfl) ev_args0 rfl) rfl) e1') (ev_var (n := 4) rfl) (by rw [eqP_bl, same, decide_eq_true rfl]))) cs_skip) ?_
  clear eb bo same i1' e1' other
  generalize (Sl.val (.lst [.int oa, .int ob, .int oc])) = S5
  generalize (Sl.val (.lst [.int s0, .int s1, .int s2])) = S6
  generalize (Sl.val (.int tm)) = S8
  generalize (Sl.val (.lst [.int h0, .int h1, .int h2])) = S9
  generalize (Sl.val (.lst [tD (s0 * tm * sel oa X.l Y.l W.l + h0, s1 * tm * sel ob X.l Y.l W.l + h1, s2 * tm * sel oc X.l Y.l W.l + h2), tD (s0 * tm * sel oa X.h Y.h W.h + h0, s1 * tm * sel ob X.h Y.h W.h + h1, s2 * tm * sel oc X.h Y.h W.h + h2)])) = S10
  generalize (Sl.val (.lst [tD (s0 * tm * sel oa X.p0 Y.p0 W.p0 + h0, s1 * tm * sel ob X.p0 Y.p0 W.p0 + h1, s2 * tm * sel oc X.p0 Y.p0 W.p0 + h2), tD (s0 * tm * sel oa X.p1 Y.p1 W.p1 + h0, s1 * tm * sel ob X.p1 Y.p1 W.p1 + h1, s2 * tm * sel oc X.p1 Y.p1 W.p1 + h2), tD (s0 * tm * sel oa X.p2 Y.p2 W.p2 + h0, s1 * tm * sel ob X.p2 Y.p2 W.p2 + h1, s2 * tm * sel oc X.p2 Y.p2 W.p2 + h2)])) = S11
  generalize (Sl.val (.lst [.int ua, .int ub, .int uc])) = S13
  generalize (Sl.val (trD X' Y' W')) = S14
  obtain ⟨r, z', ⟨ms, t11, qa, qb, qc, rfl⟩, ec⟩ := ev_compS (g := G.nm 7) (vs := [7]) (te := E.call m_law_take [(E.var 1), (E.c (.int 3))]) (fun ds acc z => ∃ (ms : List Nat) (t : Mi.TS), acc = ms.map (fun m : Nat => D.int m) ∧ (∀ m ∈ ms, m < 3) ∧ ms.length + ds.length = 6 ∧ z = ⟨[.val Xs, .val (.ref 0), .val (bxD X Y W), .val (trD X Y W), .val (.bl b0'), S5, S6, .no, S8, S9, S10, S11, .no, S13, S14, .no, .no, .no, .no, .no, .no, .no, .no, .no, .no], tkH t⟩) (z := ⟨[.val Xs, .val (.ref 0), .val (bxD X Y W), .val (trD X Y W), .val (.bl b0'), S5, S6, .no, S8, S9, S10, S11, .no, S13, S14, .no, .no, .no, .no, .no, .no, .no, .no, .no, .no], tkH t10⟩) (mi := I.rng1 (E.c (.int 6))) (xs := I.irng 0 6) (ev_rng1 (n := 6) ev_c ⟨by decide, by decide⟩) (by rw [rg_len]; unfold szl; omega) rfl rfl ⟨[], t10, rfl, (fun _ h => nomatch h), rfl, rfl⟩ (by
    rintro d ds acc z ⟨ms, t, rfl, qb, qc, rfl⟩
    obtain ⟨m, t', hm, em⟩ := takeX t (many := 3) (by decide)
    refine ⟨⟨[.val Xs, .val (.ref 0), .val (bxD X Y W), .val (trD X Y W), .val (.bl b0'), S5, S6, .val d, S8, S9, S10, S11, .no, S13, S14, .no, .no, .no, .no, .no, .no, .no, .no, .no, .no], tkH t⟩, .int m, ⟨[.val Xs, .val (.ref 0), .val (bxD X Y W), .val (trD X Y W), .val (.bl b0'), S5, S6, .val d, S8, S9, S10, S11, .no, S13, S14, .no, .no, .no, .no, .no, .no, .no, .no, .no, .no], tkH t'⟩, gr_nm rfl, ev_call (ev_args (ev_var rfl) (ev_args ev_c ev_args0 rfl) rfl) em, rfl, ms ++ [m], t', by rw [List.map_append]; rfl, fun k hk => ?_, by rw [List.length_cons] at qc; rw [List.length_append, List.length_singleton]; omega, rfl⟩
    rcases List.mem_append.mp hk with hk | hk
    · exact qb k hk
    · rw [List.mem_singleton] at hk
      subst hk
      exact hm)
  obtain ⟨m0, m1, m2, m3, m4, m5, rfl⟩ : ∃ m0 m1 m2 m3 m4 m5, ms = [m0, m1, m2, m3, m4, m5] := by
    match ms, qc with
    | [m0, m1, m2, m3, m4, m5], _ => exact ⟨m0, m1, m2, m3, m4, m5, rfl⟩
  subst qa
  have k0 := qb m0 (by simp)
  have k1 := qb m1 (by simp)
  have k2 := qb m2 (by simp)
  have k3 := qb m3 (by simp)
  have k4 := qb m4 (by simp)
  have k5 := qb m5 (by simp)
  refine Dz.nx (z1 := ⟨[.val Xs, .val (.ref 0), .val (bxD X Y W), .val (trD X Y W), .val (.bl b0'), S5, S6, .no, S8, S9, S10, S11, .no, S13, S14, .val (six m0 m1 m2 m3 m4 m5), .no, .no, .no, .no, .no, .no, .no, .no, .no], tkH t11⟩) (cs_setN (ev_frz ec) rfl rfl) ?_
  have lw : ∀ {k a b : Int}, atI [D.int X.l, D.int Y.l, D.int W.l, D.int X.h, D.int Y.h, D.int W.h] k = some (.int a) → atI [D.int m0, D.int m1, D.int m2, D.int m3, D.int m4, D.int m5] k = some (.int b) → (E.op O.sub (E.op O.ix (E.var 2) (E.var 7)) (E.op O.ix (E.var 15) (E.var 7))) ⟨[.val Xs, .val (.ref 0), .val (bxD X Y W), .val (trD X Y W), .val (.bl b0'), S5, S6, .val (.int k), S8, S9, S10, S11, .no, S13, S14, .val (six m0 m1 m2 m3 m4 m5), .no, .no, .no, .no, .no, .no, .no, .no, .no], tkH t11⟩ = some (.int (a - b), ⟨[.val Xs, .val (.ref 0), .val (bxD X Y W), .val (trD X Y W), .val (.bl b0'), S5, S6, .val (.int k), S8, S9, S10, S11, .no, S13, S14, .val (six m0 m1 m2 m3 m4 m5), .no, .no, .no, .no, .no, .no, .no, .no, .no], tkH t11⟩) := fun h1 h2 => ev_sub (ev_ix (ev_var (n := 2) (d := bxD X Y W) rfl) (ev_var rfl) rfl h1) (ev_ix (ev_var (n := 15) (d := six m0 m1 m2 m3 m4 m5) rfl) (ev_var rfl) rfl h2)
  have hw : ∀ {k a b : Int}, atI [D.int X.l, D.int Y.l, D.int W.l, D.int X.h, D.int Y.h, D.int W.h] k = some (.int a) → atI [D.int m0, D.int m1, D.int m2, D.int m3, D.int m4, D.int m5] k = some (.int b) → (E.op O.add (E.op O.ix (E.var 2) (E.var 7)) (E.op O.ix (E.var 15) (E.var 7))) ⟨[.val Xs, .val (.ref 0), .val (bxD X Y W), .val (trD X Y W), .val (.bl b0'), S5, S6, .val (.int k), S8, S9, S10, S11, .no, S13, S14, .val (six m0 m1 m2 m3 m4 m5), .no, .no, .no, .no, .no, .no, .no, .no, .no], tkH t11⟩ = some (.int (a + b), ⟨[.val Xs, .val (.ref 0), .val (bxD X Y W), .val (trD X Y W), .val (.bl b0'), S5, S6, .val (.int k), S8, S9, S10, S11, .no, S13, S14, .val (six m0 m1 m2 m3 m4 m5), .no, .no, .no, .no, .no, .no, .no, .no, .no], tkH t11⟩) := fun h1 h2 => ev_add (ev_ix (ev_var (n := 2) (d := bxD X Y W) rfl) (ev_var rfl) rfl h1) (ev_ix (ev_var (n := 15) (d := six m0 m1 m2 m3 m4 m5) rfl) (ev_var rfl) rfl h2)
  have c4 := ev_comp3 (g := G.nm 7) (vs := [7]) (z := ⟨[.val Xs, .val (.ref 0), .val (bxD X Y W), .val (trD X Y W), .val (.bl b0'), S5, S6, .no, S8, S9, S10, S11, .no, S13, S14, .val (six m0 m1 m2 m3 m4 m5), .no, .no, .no, .no, .no, .no, .no, .no, .no], tkH t11⟩) rng3 rfl rfl (gr_nm rfl) (lw (k := 0) rfl rfl) rfl rfl (gr_nm rfl) (lw (k := 1) rfl rfl) rfl rfl (gr_nm rfl) (lw (k := 2) rfl rfl) rfl rfl rfl
  have r36 : I.rng2 (E.c (.int 3)) (E.c (.int 6)) ⟨[.val Xs, .val (.ref 0), .val (bxD X Y W), .val (trD X Y W), .val (.bl b0'), S5, S6, .no, S8, S9, S10, S11, .no, S13, S14, .val (six m0 m1 m2 m3 m4 m5), .no, .no, .no, .no, .no, .no, .no, .no, .no], tkH t11⟩ = some (⟨[.int 3, .int 4, .int 5], none⟩, ⟨[.val Xs, .val (.ref 0), .val (bxD X Y W), .val (trD X Y W), .val (.bl b0'), S5, S6, .no, S8, S9, S10, S11, .no, S13, S14, .val (six m0 m1 m2 m3 m4 m5), .no, .no, .no, .no, .no, .no, .no, .no, .no], tkH t11⟩) := ev_rng2 (i := 3) (j := 6) ev_c ev_c ⟨⟨by decide, by decide⟩, by decide, by decide⟩
  have c5 := ev_comp3 (g := G.nm 7) (vs := [7]) (z := ⟨[.val Xs, .val (.ref 0), .val (bxD X Y W), .val (trD X Y W), .val (.bl b0'), S5, S6, .no, S8, S9, S10, S11, .no, S13, S14, .val (six m0 m1 m2 m3 m4 m5), .no, .no, .no, .no, .no, .no, .no, .no, .no], tkH t11⟩) r36 rfl rfl (gr_nm rfl) (hw (k := 3) rfl rfl) rfl rfl (gr_nm rfl) (hw (k := 4) rfl rfl) rfl rfl (gr_nm rfl) (hw (k := 5) rfl rfl) rfl rfl rfl
  refine Dz.nx (z1 := ⟨[.val Xs, .val (.ref 0), .val (bxD X Y W), .val (trD X Y W), .val (.bl b0'), S5, S6, .no, S8, S9, S10, S11, .no, S13, S14, .val (six m0 m1 m2 m3 m4 m5), .val (bxD (X.wide m0 m3) (Y.wide m1 m4) (W.wide m2 m5)), .no, .no, .no, .no, .no, .no, .no, .no], tkH t11⟩) (cs_setN (ev_blt1 (ev_frz (ev_cat (ev_frz c4) (ev_frz c5) rfl rfl rfl rfl (by show 3 + 3 < szl; unfold szl; omega))) (lf_tuple rfl rfl)) rfl rfl) ?_
  obtain ⟨b2', e2', i2'⟩ := touches_ev (x.wide k0 k3) (y.wide k1 k4) (w.wide k2 k5) (tkH t11)
  have imp : b0' = true → b2' = true := fun h => by
    rw [i2']
    obtain ⟨q, d, sx, sy, sz⟩ := i0.mp h
    exact ⟨q, d, sx.wide (by omega) (by omega) d, sy.wide (by omega) (by omega) d, sz.wide (by omega) (by omega) d⟩
  have tt : (T.and (T.tru (E.var 4)) (T.not (T.tru (E.call m_touches [(E.var 16), (E.var 3)])))) ⟨[.val Xs, .val (.ref 0), .val (bxD X Y W), .val (trD X Y W), .val (.bl b0'), S5, S6, .no, S8, S9, S10, S11, .no, S13, S14, .val (six m0 m1 m2 m3 m4 m5), .val (bxD (X.wide m0 m3) (Y.wide m1 m4) (W.wide m2 m5)), .no, .no, .no, .no, .no, .no, .no, .no], tkH t11⟩ = some (false, ⟨[.val Xs, .val (.ref 0), .val (bxD X Y W), .val (trD X Y W), .val (.bl b0'), S5, S6, .no, S8, S9, S10, S11, .no, S13, S14, .val (six m0 m1 m2 m3 m4 m5), .val (bxD (X.wide m0 m3) (Y.wide m1 m4) (W.wide m2 m5)), .no, .no, .no, .no, .no, .no, .no, .no], tkH t11⟩) := by
    have e := tt_and (q := !b2') (tt_tru (z := ⟨[.val Xs, .val (.ref 0), .val (bxD X Y W), .val (trD X Y W), .val (.bl b0'), S5, S6, .no, S8, S9, S10, S11, .no, S13, S14, .val (six m0 m1 m2 m3 m4 m5), .val (bxD (X.wide m0 m3) (Y.wide m1 m4) (W.wide m2 m5)), .no, .no, .no, .no, .no, .no, .no, .no], tkH t11⟩) (p := b0') (ev_var (n := 4) rfl) rfl) fun _ => tt_not (tt_tru (ev_call (ev_args (ev_var (n := 16) rfl) (ev_args (ev_var (n := 3) rfl) ev_args0 rfl) rfl) e2') rfl)
    have : (b0' && !b2') = false := by
      cases b0'
      · rfl
      · rw [imp rfl]; rfl
    rw [this] at e
    exact e
  refine Dz.nx (cs_iteF tt cs_skip) ?_
  clear tt imp i2' e2' c4 c5 lw hw r36 ec
  generalize (Sl.val (six m0 m1 m2 m3 m4 m5)) = S15
  generalize (Sl.val (bxD (X.wide m0 m3) (Y.wide m1 m4) (W.wide m2 m5))) = S16
  refine Dz.nx (z1 := ⟨[.val Xs, .val (.ref 0), .val (bxD X Y W), .val (trD X Y W), .val (.bl b0'), S5, S6, .no, S8, S9, S10, S11, .no, S13, S14, S15, S16, .val (tD (dbl (q0 X Y W))), .val (tD (dbl (q1 X Y W))), .val (tD (dbl (q2 X Y W))), .no, .no, .no, .no, .no], tkH t11⟩) (cs_asg (ev_call (ev_args (ev_var rfl) ev_args0 rfl) (doubled_ev (p := q0 X Y W) (q := q1 X Y W) (r := q2 X Y W) ⟨x.cb.a, y.cb.a, w.cb.a⟩ ⟨x.cb.b, y.cb.b, w.cb.b⟩ ⟨x.cb.c, y.cb.c, w.cb.c⟩ (tkH t11))) rfl (gr_tp (gr_cons (gr_nm rfl) (gr_cons (gr_nm rfl) (gr_cons (gr_nm rfl) gr_nil))))) ?_
  have md : m_law_middle [tD (dbl (q0 X Y W)), tD (dbl (q1 X Y W))] (tkH t11) = some (tD (X.p0 + X.p1, Y.p0 + Y.p1, W.p0 + W.p1), tkH t11) := by
    have h2 : ∀ a b : Int, (2 * a + 2 * b) / 2 = a + b := fun a b => by omega
    have e := middle_ev (dbl (q0 X Y W)) (dbl (q1 X Y W)) (tkH t11)
    unfold dbl q0 q1 at e ⊢
    dsimp only at e ⊢
    rw [h2, h2, h2] at e
    exact e
  refine Dz.nx (z1 := ⟨[.val Xs, .val (.ref 0), .val (bxD X Y W), .val (trD X Y W), .val (.bl b0'), S5, S6, .no, S8, S9, S10, S11, .no, S13, S14, S15, S16, .val (tD (dbl (q0 X Y W))), .val (tD (dbl (q1 X Y W))), .val (tD (dbl (q2 X Y W))), .val (tD (X.p0 + X.p1, Y.p0 + Y.p1, W.p0 + W.p1)), .no, .no, .no, .no], tkH t11⟩) (cs_setN (ev_call (ev_args (ev_var rfl) (ev_args (ev_var rfl) ev_args0 rfl) rfl) md) rfl rfl) ?_
  have ec6 := ev_compP (g := G.nm 22) (vs := [22]) (tt := Mi.ret true) (te := E.op O.mul (E.c (.int 2)) (E.var 22)) (z := ⟨[.val Xs, .val (.ref 0), .val (bxD X Y W), .val (trD X Y W), .val (.bl b0'), S5, S6, .no, S8, S9, S10, S11, .no, S13, S14, S15, S16, .val (tD (dbl (q0 X Y W))), .val (tD (dbl (q1 X Y W))), .val (tD (dbl (q2 X Y W))), .val (tD (X.p0 + X.p1, Y.p0 + Y.p1, W.p0 + W.p1)), .no, .no, .no, .no], tkH t11⟩) (mi := I.seqC (E.var 2)) (xs := [.int X.l, .int Y.l, .int W.l, .int X.h, .int Y.h, .int W.h]) (fun _ => true) (fun d => match d with | .int i => .int (2 * i) | d => d) (ev_seqC (x := bxD X Y W) (ev_var rfl) rfl) (by show 6 ≤ szl; unfold szl; omega) rfl rfl (fun d hd => by
    obtain ⟨i, hi, rfl⟩ : ∃ i : Int, Smn 6 i ∧ d = .int i := by
      rcases List.mem_cons.mp hd with rfl | hd
      · exact ⟨_, x.l, rfl⟩
      rcases List.mem_cons.mp hd with rfl | hd
      · exact ⟨_, y.l, rfl⟩
      rcases List.mem_cons.mp hd with rfl | hd
      · exact ⟨_, w.l, rfl⟩
      rcases List.mem_cons.mp hd with rfl | hd
      · exact ⟨_, x.h, rfl⟩
      rcases List.mem_cons.mp hd with rfl | hd
      · exact ⟨_, y.h, rfl⟩
      rw [List.mem_singleton] at hd
      exact ⟨_, w.h, hd⟩
    exact ⟨_, _, ⟨[.val Xs, .val (.ref 0), .val (bxD X Y W), .val (trD X Y W), .val (.bl b0'), S5, S6, .no, S8, S9, S10, S11, .no, S13, S14, S15, S16, .val (tD (dbl (q0 X Y W))), .val (tD (dbl (q1 X Y W))), .val (tD (dbl (q2 X Y W))), .val (tD (X.p0 + X.p1, Y.p0 + Y.p1, W.p0 + W.p1)), .no, .val (.int i), .no, .no], tkH t11⟩, gr_nm rfl, rfl, fun _ => ⟨ev_mul ev_c (ev_var rfl) (Smn.nat (by decide)) hi (by decide) (by decide), rfl⟩, fun _ => rfl, fun h => nomatch h⟩) rfl
  refine Dz.nx (z1 := ⟨[.val Xs, .val (.ref 0), .val (bxD X Y W), .val (trD X Y W), .val (.bl b0'), S5, S6, .no, S8, S9, S10, S11, .no, S13, S14, S15, S16, .val (tD (dbl (q0 X Y W))), .val (tD (dbl (q1 X Y W))), .val (tD (dbl (q2 X Y W))), .val (tD (X.p0 + X.p1, Y.p0 + Y.p1, W.p0 + W.p1)), .val (bxD X.one Y.one W.one), .no, .no, .no], tkH t11⟩) (cs_setN (ev_blt1 (ev_frz ec6) (lf_tuple rfl rfl)) rfl rfl) ?_
  obtain ⟨b3, e3, i3⟩ := touches_ev x.one y.one w.one (tkH t11)
  obtain ⟨b4, e4, i4⟩ := touches_ev x.two y.two w.two (tkH t11)
  refine Dz.nx (z1 := ⟨[.val Xs, .val (.ref 0), .val (bxD X Y W), .val (trD X Y W), .val (.bl b0'), S5, S6, .no, S8, S9, S10, S11, .no, S13, S14, S15, S16, .val (tD (dbl (q0 X Y W))), .val (tD (dbl (q1 X Y W))), .val (tD (dbl (q2 X Y W))), .val (tD (X.p0 + X.p1, Y.p0 + Y.p1, W.p0 + W.p1)), .val (bxD X.one Y.one W.one), .no, .val (.bl b3), .no], tkH t11⟩) (cs_setN (ev_call (xs := [bxD X.one Y.one W.one, trD X.one Y.one W.one]) (ev_args (ev_var rfl) (ev_args (ev_tup (ev_args (ev_var (n := 17) rfl) (ev_args (ev_var (n := 20) rfl) (ev_args (ev_var (n := 19) rfl) ev_args0 rfl) rfl) rfl)) ev_args0 rfl) rfl) e3) rfl rfl) ?_
  refine Dz.nx (z1 := ⟨[.val Xs, .val (.ref 0), .val (bxD X Y W), .val (trD X Y W), .val (.bl b0'), S5, S6, .no, S8, S9, S10, S11, .no, S13, S14, S15, S16, .val (tD (dbl (q0 X Y W))), .val (tD (dbl (q1 X Y W))), .val (tD (dbl (q2 X Y W))), .val (tD (X.p0 + X.p1, Y.p0 + Y.p1, W.p0 + W.p1)), .val (bxD X.one Y.one W.one), .no, .val (.bl b3), .val (.bl b4)], tkH t11⟩) (cs_setN (ev_call (xs := [bxD X.two Y.two W.two, trD X.two Y.two W.two]) (ev_args (ev_var rfl) (ev_args (ev_tup (ev_args (ev_var (n := 20) rfl) (ev_args (ev_var (n := 18) rfl) (ev_args (ev_var (n := 19) rfl) ev_args0 rfl) rfl) rfl)) ev_args0 rfl) rfl) e4) rfl rfl) ?_
  have same2 : (b3 || b4) = b0' := by
    refine b_eq ?_ i0
    rw [Bool.or_eq_true, i3, i4]
    exact T.cut
  refine Dz.of (cs_ret (ev_eq (ev_or (ev_var (n := 23) rfl) fun _ => ev_var (n := 24) rfl) (ev_var (n := 4) rfl) (by rw [eqP_bl, same2, decide_eq_true rfl])) rfl) rfl
theorem sml_smn {i : Int} (h : -20 ≤ i ∧ i ≤ 20) : Smn 6 i := smn_of (m := 20) (by omega) (by decide)
theorem law_true (ns : List Int) (hl : ns.length ≤ 63) : ∃ h', m_law [.scr (ns.map D.int)] [] = some (.bl true, h') := by
  obtain ⟨t, ht⟩ := stream_ev ns hl
  unfold m_law
  apply Mi.Ends.fn rfl
  refine Dz.ends ?_
  unfold b_law
  have hp : isPure (D.scr (ns.map D.int)) = true := rfl
  generalize (D.scr (ns.map D.int)) = Xs at *
  refine Dz.nx (z1 := ⟨[.val Xs, .val (.ref 0), .no, .no, .no, .no, .no, .no, .no, .no, .no, .no, .no, .no, .no, .no, .no, .no, .no, .no, .no, .no, .no, .no, .no], tkH t⟩) (cs_setN (ev_call (ev_args (ev_var rfl) ev_args0 (by rw [hp])) ht) rfl rfl) ?_
  obtain ⟨lx, ly, lz, hx, hy, hz, t1, b1, b2, b3, e1⟩ := box_ev t
  refine Dz.nx (z1 := ⟨[.val Xs, .val (.ref 0), .val (.tup [.int lx, .int ly, .int lz, .int hx, .int hy, .int hz]), .no, .no, .no, .no, .no, .no, .no, .no, .no, .no, .no, .no, .no, .no, .no, .no, .no, .no, .no, .no, .no, .no], tkH t1⟩) (cs_setN (ev_call (ev_args (ev_var rfl) ev_args0 rfl) e1) rfl rfl) ?_
  obtain ⟨p, q, r, t2, hp', hq, hr, e2⟩ := triangle_ev t1
  refine Dz.nx (z1 := ⟨[.val Xs, .val (.ref 0), .val (.tup [.int lx, .int ly, .int lz, .int hx, .int hy, .int hz]), .val (.tup [tD p, tD q, tD r]), .no, .no, .no, .no, .no, .no, .no, .no, .no, .no, .no, .no, .no, .no, .no, .no, .no, .no, .no, .no, .no], tkH t2⟩) (cs_setN (ev_call (ev_args (ev_var rfl) ev_args0 rfl) e2) rfl rfl) ?_
  have x : CS ⟨p.1, q.1, r.1, lx, hx⟩ := ⟨sml_smn hp'.1, sml_smn hq.1, sml_smn hr.1, sml_smn (by dsimp only; omega), sml_smn (by dsimp only; omega), by dsimp only; omega⟩
  have y : CS ⟨p.2.1, q.2.1, r.2.1, ly, hy⟩ := ⟨sml_smn hp'.2.1, sml_smn hq.2.1, sml_smn hr.2.1, sml_smn (by dsimp only; omega), sml_smn (by dsimp only; omega), by dsimp only; omega⟩
  have w : CS ⟨p.2.2, q.2.2, r.2.2, lz, hz⟩ := ⟨sml_smn hp'.2.2, sml_smn hq.2.2, sml_smn hr.2.2, sml_smn (by dsimp only; omega), sml_smn (by dsimp only; omega), by dsimp only; omega⟩
  exact rest_ev Xs x y w t2
end K24

set_option Elab.async false
set_option linter.all false
set_option maxRecDepth 100000
namespace K24
open PySem L2 Mi
structure Txt (K : Kx) (mg : Str → Option Value) where
  a_dot : Addr
  d_dot : FuncData
  f_dot : Fun K "dot" "dot" s_dot a_dot d_dot
  m_dot : mg "dot" = some (.ref a_dot)
  b_dot : Binds K d_dot ["one", "two"] []
  a_cross : Addr
  d_cross : FuncData
  f_cross : Fun K "cross" "cross" s_cross a_cross d_cross
  m_cross : mg "cross" = some (.ref a_cross)
  b_cross : Binds K d_cross ["one", "two"] []
  a_less : Addr
  d_less : FuncData
  f_less : Fun K "less" "less" s_less a_less d_less
  m_less : mg "less" = some (.ref a_less)
  b_less : Binds K d_less ["one", "two"] []
  a_axes_of : Addr
  d_axes_of : FuncData
  f_axes_of : Fun K "axes_of" "axes_of" s_axes_of a_axes_of d_axes_of
  m_axes_of : mg "axes_of" = some (.ref a_axes_of)
  b_axes_of : Binds K d_axes_of ["triangle"] []
  a_span_of : Addr
  d_span_of : FuncData
  f_span_of : Fun K "span_of" "span_of" s_span_of a_span_of d_span_of
  m_span_of : mg "span_of" = some (.ref a_span_of)
  b_span_of : Binds K d_span_of ["box", "axis"] []
  a_is_empty : Addr
  d_is_empty : FuncData
  f_is_empty : Fun K "is_empty" "is_empty" s_is_empty a_is_empty d_is_empty
  m_is_empty : mg "is_empty" = some (.ref a_is_empty)
  b_is_empty : Binds K d_is_empty ["box"] []
  a_touches : Addr
  d_touches : FuncData
  f_touches : Fun K "touches" "touches" s_touches a_touches d_touches
  m_touches : mg "touches" = some (.ref a_touches)
  b_touches : Binds K d_touches ["box", "triangle"] []
  a_law_stream : Addr
  d_law_stream : FuncData
  f_law_stream : Fun K "_law_stream" "_law_stream" s_law_stream a_law_stream d_law_stream
  m_law_stream : mg "_law_stream" = some (.ref a_law_stream)
  b_law_stream : Binds K d_law_stream ["_law_script"] []
  a_law_take : Addr
  d_law_take : FuncData
  f_law_take : Fun K "_law_take" "_law_take" s_law_take a_law_take d_law_take
  m_law_take : mg "_law_take" = some (.ref a_law_take)
  b_law_take : Binds K d_law_take ["_law_row", "_law_many"] []
  a_law_box : Addr
  d_law_box : FuncData
  f_law_box : Fun K "_law_box" "_law_box" s_law_box a_law_box d_law_box
  m_law_box : mg "_law_box" = some (.ref a_law_box)
  b_law_box : Binds K d_law_box ["_law_row"] []
  a_law_triangle : Addr
  d_law_triangle : FuncData
  f_law_triangle : Fun K "_law_triangle" "_law_triangle" s_law_triangle a_law_triangle d_law_triangle
  m_law_triangle : mg "_law_triangle" = some (.ref a_law_triangle)
  b_law_triangle : Binds K d_law_triangle ["_law_row"] []
  a_law_moved : Addr
  d_law_moved : FuncData
  f_law_moved : Fun K "_law_moved" "_law_moved" s_law_moved a_law_moved d_law_moved
  m_law_moved : mg "_law_moved" = some (.ref a_law_moved)
  b_law_moved : Binds K d_law_moved ["_law_point", "_law_order", "_law_signs", "_law_times", "_law_shift"] []
  a_law_box_of : Addr
  d_law_box_of : FuncData
  f_law_box_of : Fun K "_law_box_of" "_law_box_of" s_law_box_of a_law_box_of d_law_box_of
  m_law_box_of : mg "_law_box_of" = some (.ref a_law_box_of)
  b_law_box_of : Binds K d_law_box_of ["_law_one", "_law_two"] []
  a_law_middle : Addr
  d_law_middle : FuncData
  f_law_middle : Fun K "_law_middle" "_law_middle" s_law_middle a_law_middle d_law_middle
  m_law_middle : mg "_law_middle" = some (.ref a_law_middle)
  b_law_middle : Binds K d_law_middle ["_law_one", "_law_two"] []
  a_law_doubled : Addr
  d_law_doubled : FuncData
  f_law_doubled : Fun K "_law_doubled" "_law_doubled" s_law_doubled a_law_doubled d_law_doubled
  m_law_doubled : mg "_law_doubled" = some (.ref a_law_doubled)
  b_law_doubled : Binds K d_law_doubled ["_law_points"] []
  a_law : Addr
  d_law : FuncData
  f_law : Fun K "law" "law" s_law a_law d_law
  m_law : mg "law" = some (.ref a_law)
  b_law : Binds K d_law ["_law_script"] []
  n_abs : mg "abs" = none
  n_any : mg "any" = none
  n_int : mg "int" = none
  n_len : mg "len" = none
  n_max : mg "max" = none
  n_min : mg "min" = none
  n_range : mg "range" = none
  n_tuple : mg "tuple" = none
section
variable {P : Program} {w : World} {K : Kx} {mg : Str → Option Value} {base : Heap}
theorem ok_dot (T : Txt K mg) : FnOk P w K mg base CX0 1 T.a_dot T.d_dot ["one", "two"] (spM 2 K m_dot) := fn_ok T.f_dot sc_dot rfl rfl fun cdv A outer s H Ee hr =>
  (mss_one (ms_ret (me_op o_add (me_op o_add (me_op o_mul (me_ix (me_var 0) me_int) (me_ix (me_var 1) me_int)) (me_op o_mul (me_ix (me_var 0) me_int) (me_ix (me_var 1) me_int))) (me_op o_mul (me_ix (me_var 0) me_int) (me_ix (me_var 1) me_int)))))
theorem ok_cross (T : Txt K mg) : FnOk P w K mg base CX0 1 T.a_cross T.d_cross ["one", "two"] (spM 2 K m_cross) := fn_ok T.f_cross sc_cross rfl rfl fun cdv A outer s H Ee hr =>
  (mss_cons (ms_set (i := 2) sc_cross.nd (me_op o_sub (me_op o_mul (me_ix (me_var 0) me_int) (me_ix (me_var 1) me_int)) (me_op o_mul (me_ix (me_var 0) me_int) (me_ix (me_var 1) me_int)))) (mss_cons (ms_set (i := 3) sc_cross.nd (me_op o_sub (me_op o_mul (me_ix (me_var 0) me_int) (me_ix (me_var 1) me_int)) (me_op o_mul (me_ix (me_var 0) me_int) (me_ix (me_var 1) me_int)))) (mss_cons (ms_set (i := 4) sc_cross.nd (me_op o_sub (me_op o_mul (me_ix (me_var 0) me_int) (me_ix (me_var 1) me_int)) (me_op o_mul (me_ix (me_var 0) me_int) (me_ix (me_var 1) me_int)))) (mss_one (ms_ret (me_tup (ma_cons (me_var 2) (ma_cons (me_var 3) (ma_cons (me_var 4) ma_nil)))))))))
theorem ok_less (T : Txt K mg) : FnOk P w K mg base CX0 1 T.a_less T.d_less ["one", "two"] (spM 2 K m_less) := fn_ok T.f_less sc_less rfl rfl fun cdv A outer s H Ee hr =>
  (mss_one (ms_ret (me_tup (ma_cons (me_op o_sub (me_ix (me_var 0) me_int) (me_ix (me_var 1) me_int)) (ma_cons (me_op o_sub (me_ix (me_var 0) me_int) (me_ix (me_var 1) me_int)) (ma_cons (me_op o_sub (me_ix (me_var 0) me_int) (me_ix (me_var 1) me_int)) ma_nil))))))
theorem ok_axes_of (T : Txt K mg) : FnOk P w K mg base CX0 2 T.a_axes_of T.d_axes_of ["triangle"] (spM 1 K m_axes_of) := fn_ok T.f_axes_of sc_axes_of rfl rfl fun cdv A outer s H Ee hr =>
  (mss_cons (ms_set (i := 1) sc_axes_of.nd (me_frz (mf_disp (ma_cons (me_tup (ma_cons me_int (ma_cons me_int (ma_cons me_int ma_nil)))) (ma_cons (me_tup (ma_cons me_int (ma_cons me_int (ma_cons me_int ma_nil)))) (ma_cons (me_tup (ma_cons me_int (ma_cons me_int (ma_cons me_int ma_nil)))) ma_nil)))))) (mss_cons (ms_frzLc (i := 2) [3] (own := [("k", 3)]) rfl sc_axes_of.nd rfl rfl (sw_true rfl rfl rfl (by decide +kernel)) (mi_rng1 (by rfl) T.n_range me_int) (blkOk_by (by kernel_rfl)) rfl (fun _ _ _ _ _ => (mg_nm (i := 3) sc_axes_of.nd)) (fun _ _ _ _ _ => mts_nil) (fun _ _ _ _ _ => (me_call (ok_less T) (hr.mono (by decide)) (by rfl) T.m_less T.f_less.kp T.b_less (ma_cons (me_ix (me_var 0) (me_var 3)) (ma_cons (me_ix (me_var 0) (me_op o_sub (me_var 3) me_int)) ma_nil)))) (by decide)) (mss_cons (ms_own (i := 4) sc_axes_of.nd (mf_cat (me_var 1) (me_frz (mf_disp (ma_cons (me_call (ok_cross T) (hr.mono (by decide)) (by rfl) T.m_cross T.f_cross.kp T.b_cross (ma_cons (me_ix (me_var 2) me_int) (ma_cons (me_ix (me_var 2) me_int) ma_nil))) ma_nil))))) (mss_cons (ms_for PassesOwn.never rfl (mi_seq (me_var 1)) seq_noOwn (mg_nm (i := 5) sc_axes_of.nd) (mss_one (ms_expr (me_extend (me_var 4) (ma_cons (me_frz (mf_lc [6] (own := [("edge", 6)]) rfl sc_axes_of.nd (mi_seqC (me_var 2)) (blkOk_by (by kernel_rfl)) rfl (fun _ _ _ _ _ => (mg_nm (i := 6) sc_axes_of.nd)) (fun _ _ _ _ _ => mts_nil) (fun _ _ _ _ _ => (me_call (ok_cross T) (hr.mono (by decide)) (by rfl) T.m_cross T.f_cross.kp T.b_cross (ma_cons (me_var 5) (ma_cons (me_var 6) ma_nil)))) (by decide))) ma_nil))))) (mss_one (ms_ret (me_frz (mf_lc [7] (own := [("axis", 7)]) rfl sc_axes_of.nd (mi_seqC (me_var 4)) (blkOk_by (by kernel_rfl)) rfl (fun _ _ _ _ _ => (mg_nm (i := 7) sc_axes_of.nd)) (fun _ _ _ _ _ => (mts_one (mt_cmp (o_ne hr.units) (me_var 7) (me_tup (ma_cons me_int (ma_cons me_int (ma_cons me_int ma_nil)))) (nomark _)))) (fun _ _ _ _ _ => (me_var 7)) (by decide)))))))))
theorem ok_span_of (T : Txt K mg) : FnOk P w K mg base CX0 1 T.a_span_of T.d_span_of ["box", "axis"] (spM 2 K m_span_of) := fn_ok T.f_span_of sc_span_of rfl rfl fun cdv A outer s H Ee hr =>
  (mss_cons (ms_set (i := 2) sc_span_of.nd me_int) (mss_cons (ms_set (i := 3) sc_span_of.nd me_int) (mss_cons (ms_for PassesOwn.never rfl (mi_rng1 (by rfl) T.n_range me_int) rng1_noOwn (mg_nm (i := 4) sc_span_of.nd) (mss_cons (ms_set (i := 5) sc_span_of.nd (me_tup (ma_cons (me_op o_mul (me_ix (me_var 1) (me_var 4)) (me_ix (me_var 0) (me_var 4))) (ma_cons (me_op o_mul (me_ix (me_var 1) (me_var 4)) (me_ix (me_var 0) (me_op o_add (me_var 4) me_int))) ma_nil)))) (mss_cons (ms_aug (i := 2) sc_span_of.nd i_add (me_blt1 (f_minR rfl hr.units) (by rfl) T.n_min (by decide +kernel) (me_var 5))) (mss_one (ms_aug (i := 3) sc_span_of.nd i_add (me_blt1 (f_maxR rfl hr.units) (by rfl) T.n_max (by decide +kernel) (me_var 5))))))) (mss_one (ms_ret (me_tup (ma_cons (me_var 2) (ma_cons (me_var 3) ma_nil))))))))
theorem ok_is_empty (T : Txt K mg) : FnOk P w K mg base CX0 1 T.a_is_empty T.d_is_empty ["box"] (spM 1 K m_is_empty) := fn_ok T.f_is_empty sc_is_empty rfl rfl fun cdv A outer s H Ee hr =>
  (mss_one (ms_ret (me_blt1 (f_any1 rfl) (by rfl) T.n_any (by decide +kernel) (me_frz (mf_lc [1] (own := [("k", 1)]) rfl sc_is_empty.nd (mi_rng1 (by rfl) T.n_range me_int) (blkOk_by (by kernel_rfl)) rfl (fun _ _ _ _ _ => (mg_nm (i := 1) sc_is_empty.nd)) (fun _ _ _ _ _ => mts_nil) (fun _ _ _ _ _ => (me_cmp o_ge (me_ix (me_var 0) (me_var 1)) (me_ix (me_var 0) (me_op o_add (me_var 1) me_int)) (nomark _))) (by decide))))))
theorem ok_touches (T : Txt K mg) : FnOk P w K mg base CX0 3 T.a_touches T.d_touches ["box", "triangle"] (spM 2 K m_touches) := fn_ok T.f_touches sc_touches rfl rfl fun cdv A outer s H Ee hr =>
  (mss_cons (ms_if (mt_tru (me_call (ok_is_empty T) (hr.mono (by decide)) (by rfl) T.m_is_empty T.f_is_empty.kp T.b_is_empty (ma_cons (me_var 0) ma_nil))) (mss_one (ms_ret me_bl)) mss_nil) (mss_cons (ms_for PassesOwn.never rfl (mi_seq (me_call (ok_axes_of T) (hr.mono (by decide)) (by rfl) T.m_axes_of T.f_axes_of.kp T.b_axes_of (ma_cons (me_var 1) ma_nil))) seq_noOwn (mg_nm (i := 2) sc_touches.nd) (mss_cons (ms_asg (me_call (ok_span_of T) (hr.mono (by decide)) (by rfl) T.m_span_of T.f_span_of.kp T.b_span_of (ma_cons (me_var 0) (ma_cons (me_var 2) ma_nil))) (mg_tp rfl (mgs_cons (mg_nm (i := 3) sc_touches.nd) (mgs_cons (mg_nm (i := 4) sc_touches.nd) mgs_nil)))) (mss_cons (ms_frzLc (i := 5) [6] (own := [("point", 6)]) rfl sc_touches.nd rfl rfl (sw_true rfl rfl rfl (by decide +kernel)) (mi_seqC (me_var 1)) (blkOk_by (by kernel_rfl)) rfl (fun _ _ _ _ _ => (mg_nm (i := 6) sc_touches.nd)) (fun _ _ _ _ _ => mts_nil) (fun _ _ _ _ _ => (me_call (ok_dot T) (hr.mono (by decide)) (by rfl) T.m_dot T.f_dot.kp T.b_dot (ma_cons (me_var 2) (ma_cons (me_var 6) ma_nil)))) (by decide)) (mss_one (ms_if (PW.pt (mw_or (mt_cmp o_le (me_blt1 (f_maxR rfl hr.units) (by rfl) T.n_max (by decide +kernel) (me_var 5)) (me_var 3) (nomark _)) (mw_or1 (mt_cmp o_ge (me_blt1 (f_minR rfl hr.units) (by rfl) T.n_min (by decide +kernel) (me_var 5)) (me_var 4) (nomark _))))) (mss_one (ms_ret me_bl)) mss_nil))))) (mss_one (ms_ret me_bl))))
theorem ok_law_stream (T : Txt K mg) : FnOk P w K mg base CX0 1 T.a_law_stream T.d_law_stream ["_law_script"] (spM 1 K m_law_stream) := fn_ok T.f_law_stream sc_law_stream rfl rfl fun cdv A outer s H Ee hr =>
  (mss_cons (ms_own (i := 1) sc_law_stream.nd (mf_disp (ma_cons me_int ma_nil))) (mss_cons (ms_for PassesOwn.never rfl (mi_seq (me_frz (mf_slice (me_var 0) mo_none (mo_some me_int)))) seq_noOwn (mg_nm (i := 2) sc_law_stream.nd) (mss_cons (ms_set (i := 3) sc_law_stream.nd (me_blt1 f_abs (by rfl) T.n_abs (by decide +kernel) (me_ty1 f_int1 (by rfl) T.n_int (by decide +kernel) (me_var 2)))) (mss_one (ms_for PassesOwn.never rfl (mi_rng1 (by rfl) T.n_range me_int) rng1_noOwn (mg_nm (i := 4) sc_law_stream.nd) (mss_cons (ms_expr (me_append (me_var 1) (ma_cons (me_op o_mod (me_var 3) me_int) ma_nil))) (mss_cons (ms_set (i := 3) sc_law_stream.nd (me_op o_div (me_var 3) me_int)) (mss_one (ms_if (mt_cmp (o_eq hr.units) (me_var 3) me_int (nomark _)) (mss_one ms_brk) mss_nil)))))))) (mss_cons (ms_set (i := 5) sc_law_stream.nd me_int) (mss_cons (ms_for PassesOwn.never rfl (mi_seq (me_frz (mf_slice (me_var 0) mo_none (mo_some me_int)))) seq_noOwn (mg_nm (i := 2) sc_law_stream.nd) (mss_one (ms_set (i := 5) sc_law_stream.nd (me_op o_mod (me_ty1 f_int1 (by rfl) T.n_int (by decide +kernel) (me_op o_add (me_op o_add (me_op o_mul (me_var 5) me_int) (me_var 2)) me_int)) me_int)))) (mss_cons (ms_for PassesOwn.never rfl (mi_rng1 (by rfl) T.n_range me_int) rng1_noOwn (mg_nm (i := 4) sc_law_stream.nd) (mss_cons (ms_set (i := 5) sc_law_stream.nd (me_op o_mod (me_ty1 f_int1 (by rfl) T.n_int (by decide +kernel) (me_op o_add (me_op o_add (me_op o_mul (me_var 5) me_int) (me_op o_mul (me_var 4) me_int)) me_int)) me_int)) (mss_one (ms_expr (me_append (me_var 1) (ma_cons (me_op o_mod (me_op o_div (me_var 5) me_int) me_int) ma_nil)))))) (mss_one (ms_retS (me_var 1))))))))
theorem ok_law_take (T : Txt K mg) : FnOk P w K mg base CX0 1 T.a_law_take T.d_law_take ["_law_row", "_law_many"] (spM 2 K m_law_take) := fn_ok T.f_law_take sc_law_take rfl rfl fun cdv A outer s H Ee hr =>
  (mss_cons (ms_if (mt_cmp o_lt (me_ix (me_var 0) me_int) (me_blt1 f_len (by rfl) T.n_len (by decide +kernel) (me_var 0)) (nomark _)) (mss_cons (ms_setIx (me_op o_add (me_ix (me_var 0) me_int) me_int) (me_var 0) me_int) (mss_one (ms_ret (me_op o_mod (me_ty1 f_int1 (by rfl) T.n_int (by decide +kernel) (me_ix (me_var 0) (me_op o_sub (me_ix (me_var 0) me_int) me_int))) (me_var 1))))) mss_nil) (mss_one (ms_ret me_int)))
theorem ok_law_box (T : Txt K mg) : FnOk P w K mg base CX0 2 T.a_law_box T.d_law_box ["_law_row"] (spM 1 K m_law_box) := fn_ok T.f_law_box sc_law_box rfl rfl fun cdv A outer s H Ee hr =>
  (mss_cons (ms_frzLc (i := 1) [2] (own := [("_law_k", 2)]) rfl sc_law_box.nd rfl rfl (sw_true rfl rfl rfl (by decide +kernel)) (mi_rng1 (by rfl) T.n_range me_int) (blkOk_by (by kernel_rfl)) rfl (fun _ _ _ _ _ => (mg_nm (i := 2) sc_law_box.nd)) (fun _ _ _ _ _ => mts_nil) (fun _ _ _ _ _ => (me_op o_sub (me_call (ok_law_take T) (hr.mono (by decide)) (by rfl) T.m_law_take T.f_law_take.kp T.b_law_take (ma_cons (me_var 0) (ma_cons me_int ma_nil))) me_int)) (by decide)) (mss_cons (ms_frzLc (i := 3) [4] (own := [("_law_part", 4)]) rfl sc_law_box.nd rfl rfl (sw_true rfl rfl rfl (by decide +kernel)) (mi_seqC (me_var 1)) (blkOk_by (by kernel_rfl)) rfl (fun _ _ _ _ _ => (mg_nm (i := 4) sc_law_box.nd)) (fun _ _ _ _ _ => mts_nil) (fun _ _ _ _ _ => (me_op o_add (me_var 4) (me_call (ok_law_take T) (hr.mono (by decide)) (by rfl) T.m_law_take T.f_law_take.kp T.b_law_take (ma_cons (me_var 0) (ma_cons me_int ma_nil))))) (by decide)) (mss_one (ms_ret (me_tup (ma_cons (me_ix (me_var 1) me_int) (ma_cons (me_ix (me_var 1) me_int) (ma_cons (me_ix (me_var 1) me_int) (ma_cons (me_ix (me_var 3) me_int) (ma_cons (me_ix (me_var 3) me_int) (ma_cons (me_ix (me_var 3) me_int) ma_nil)))))))))))
theorem ok_law_triangle (T : Txt K mg) : FnOk P w K mg base CX0 2 T.a_law_triangle T.d_law_triangle ["_law_row"] (spM 1 K m_law_triangle) := fn_ok T.f_law_triangle sc_law_triangle rfl rfl fun cdv A outer s H Ee hr =>
  (mss_cons (ms_own (i := 1) sc_law_triangle.nd (mf_disp ma_nil)) (mss_cons (ms_for PassesOwn.never rfl (mi_rng1 (by rfl) T.n_range me_int) rng1_noOwn (mg_nm (i := 2) sc_law_triangle.nd) (mss_cons (ms_frzLc (i := 3) [4] (own := [("_law_j", 4)]) rfl sc_law_triangle.nd rfl rfl (sw_true rfl rfl rfl (by decide +kernel)) (mi_rng1 (by rfl) T.n_range me_int) (blkOk_by (by kernel_rfl)) rfl (fun _ _ _ _ _ => (mg_nm (i := 4) sc_law_triangle.nd)) (fun _ _ _ _ _ => mts_nil) (fun _ _ _ _ _ => (me_op o_sub (me_call (ok_law_take T) (hr.mono (by decide)) (by rfl) T.m_law_take T.f_law_take.kp T.b_law_take (ma_cons (me_var 0) (ma_cons me_int ma_nil))) me_int)) (by decide)) (mss_one (ms_expr (me_append (me_var 1) (ma_cons (me_tup (ma_cons (me_ix (me_var 3) me_int) (ma_cons (me_ix (me_var 3) me_int) (ma_cons (me_ix (me_var 3) me_int) ma_nil)))) ma_nil)))))) (mss_cons (ms_if (mt_cmp (o_eq hr.units) (me_call (ok_law_take T) (hr.mono (by decide)) (by rfl) T.m_law_take T.f_law_take.kp T.b_law_take (ma_cons (me_var 0) (ma_cons me_int ma_nil))) me_int (nomark _)) (mss_one (ms_setIx (me_ix (me_var 1) (me_call (ok_law_take T) (hr.mono (by decide)) (by rfl) T.m_law_take T.f_law_take.kp T.b_law_take (ma_cons (me_var 0) (ma_cons me_int ma_nil)))) (me_var 1) me_int)) mss_nil) (mss_one (ms_ret (me_tup (ma_cons (me_ix (me_var 1) me_int) (ma_cons (me_ix (me_var 1) me_int) (ma_cons (me_ix (me_var 1) me_int) ma_nil)))))))))
theorem ok_law_moved (T : Txt K mg) : FnOk P w K mg base CX0 1 T.a_law_moved T.d_law_moved ["_law_point", "_law_order", "_law_signs", "_law_times", "_law_shift"] (spM 5 K m_law_moved) := fn_ok T.f_law_moved sc_law_moved rfl rfl fun cdv A outer s H Ee hr =>
  (mss_cons (ms_frzLc (i := 5) [6] (own := [("_law_k", 6)]) rfl sc_law_moved.nd rfl rfl (sw_true rfl rfl rfl (by decide +kernel)) (mi_rng1 (by rfl) T.n_range me_int) (blkOk_by (by kernel_rfl)) rfl (fun _ _ _ _ _ => (mg_nm (i := 6) sc_law_moved.nd)) (fun _ _ _ _ _ => mts_nil) (fun _ _ _ _ _ => (me_op o_add (me_op o_mul (me_op o_mul (me_ix (me_var 2) (me_var 6)) (me_var 3)) (me_ix (me_var 0) (me_ix (me_var 1) (me_var 6)))) (me_ix (me_var 4) (me_var 6)))) (by decide)) (mss_one (ms_ret (me_tup (ma_cons (me_ix (me_var 5) me_int) (ma_cons (me_ix (me_var 5) me_int) (ma_cons (me_ix (me_var 5) me_int) ma_nil)))))))
theorem ok_law_box_of (T : Txt K mg) : FnOk P w K mg base CX0 1 T.a_law_box_of T.d_law_box_of ["_law_one", "_law_two"] (spM 2 K m_law_box_of) := fn_ok T.f_law_box_of sc_law_box_of rfl rfl fun cdv A outer s H Ee hr =>
  (mss_cons (ms_frzLc (i := 2) [3] (own := [("_law_k", 3)]) rfl sc_law_box_of.nd rfl rfl (sw_true rfl rfl rfl (by decide +kernel)) (mi_rng1 (by rfl) T.n_range me_int) (blkOk_by (by kernel_rfl)) rfl (fun _ _ _ _ _ => (mg_nm (i := 3) sc_law_box_of.nd)) (fun _ _ _ _ _ => mts_nil) (fun _ _ _ _ _ => (me_blt2 (f_min2 rfl) (by rfl) T.n_min (by decide +kernel) (ma_cons (me_ix (me_var 0) (me_var 3)) (ma_cons (me_ix (me_var 1) (me_var 3)) ma_nil)))) (by decide)) (mss_cons (ms_frzLc (i := 4) [3] (own := [("_law_k", 3)]) rfl sc_law_box_of.nd rfl rfl (sw_true rfl rfl rfl (by decide +kernel)) (mi_rng1 (by rfl) T.n_range me_int) (blkOk_by (by kernel_rfl)) rfl (fun _ _ _ _ _ => (mg_nm (i := 3) sc_law_box_of.nd)) (fun _ _ _ _ _ => mts_nil) (fun _ _ _ _ _ => (me_blt2 (f_max2 rfl) (by rfl) T.n_max (by decide +kernel) (ma_cons (me_ix (me_var 0) (me_var 3)) (ma_cons (me_ix (me_var 1) (me_var 3)) ma_nil)))) (by decide)) (mss_one (ms_ret (me_tup (ma_cons (me_ix (me_var 2) me_int) (ma_cons (me_ix (me_var 2) me_int) (ma_cons (me_ix (me_var 2) me_int) (ma_cons (me_ix (me_var 4) me_int) (ma_cons (me_ix (me_var 4) me_int) (ma_cons (me_ix (me_var 4) me_int) ma_nil)))))))))))
theorem ok_law_middle (T : Txt K mg) : FnOk P w K mg base CX0 1 T.a_law_middle T.d_law_middle ["_law_one", "_law_two"] (spM 2 K m_law_middle) := fn_ok T.f_law_middle sc_law_middle rfl rfl fun cdv A outer s H Ee hr =>
  (mss_one (ms_ret (me_ty1 f_tuple (by rfl) T.n_tuple (by decide +kernel) (me_frz (mf_lc [2] (own := [("_law_k", 2)]) rfl sc_law_middle.nd (mi_rng1 (by rfl) T.n_range me_int) (blkOk_by (by kernel_rfl)) rfl (fun _ _ _ _ _ => (mg_nm (i := 2) sc_law_middle.nd)) (fun _ _ _ _ _ => mts_nil) (fun _ _ _ _ _ => (me_op o_div (me_ty1 f_int1 (by rfl) T.n_int (by decide +kernel) (me_op o_add (me_ix (me_var 0) (me_var 2)) (me_ix (me_var 1) (me_var 2)))) me_int)) (by decide))))))
theorem ok_law_doubled (T : Txt K mg) : FnOk P w K mg base CX0 1 T.a_law_doubled T.d_law_doubled ["_law_points"] (spM 1 K m_law_doubled) := fn_ok T.f_law_doubled sc_law_doubled rfl rfl fun cdv A outer s H Ee hr =>
  (mss_one (ms_ret (me_ty1 f_tuple (by rfl) T.n_tuple (by decide +kernel) (me_frz (mf_lc [2] (own := [("_law_point", 2)]) rfl sc_law_doubled.nd (mi_seqC (me_var 0)) (blkOk_by (by kernel_rfl)) rfl (fun _ _ _ _ _ => (mg_nm (i := 2) sc_law_doubled.nd)) (fun _ _ _ _ _ => mts_nil) (fun _ _ _ _ _ => (me_ty1 f_tuple (by rfl) T.n_tuple (by decide +kernel) (me_frz (mf_lc [1] (own := [("_law_part", 1)]) rfl sc_law_doubled.nd (mi_seqC (me_var 2)) (blkOk_by (by kernel_rfl)) rfl (fun _ _ _ _ _ => (mg_nm (i := 1) sc_law_doubled.nd)) (fun _ _ _ _ _ => mts_nil) (fun _ _ _ _ _ => (me_op o_mul me_int (me_var 1))) (by decide))))) (by decide))))))
theorem ok_law (T : Txt K mg) : FnOk P w K mg base CX0 4 T.a_law T.d_law ["_law_script"] (spM 1 K m_law) := fn_ok T.f_law sc_law rfl rfl fun cdv A outer s H Ee hr =>
  (mss_cons (ms_set (i := 1) sc_law.nd (me_call (ok_law_stream T) (hr.mono (by decide)) (by rfl) T.m_law_stream T.f_law_stream.kp T.b_law_stream (ma_cons (me_var 0) ma_nil))) (mss_cons (ms_set (i := 2) sc_law.nd (me_call (ok_law_box T) (hr.mono (by decide)) (by rfl) T.m_law_box T.f_law_box.kp T.b_law_box (ma_cons (me_var 1) ma_nil))) (mss_cons (ms_set (i := 3) sc_law.nd (me_call (ok_law_triangle T) (hr.mono (by decide)) (by rfl) T.m_law_triangle T.f_law_triangle.kp T.b_law_triangle (ma_cons (me_var 1) ma_nil))) (mss_cons (ms_set (i := 4) sc_law.nd (me_call (ok_touches T) (hr.mono (by decide)) (by rfl) T.m_touches T.f_touches.kp T.b_touches (ma_cons (me_var 2) (ma_cons (me_var 3) ma_nil)))) (mss_cons (ms_set (i := 5) sc_law.nd (me_ix (me_frz (mf_disp (ma_cons (me_frz (mf_disp (ma_cons me_int (ma_cons me_int (ma_cons me_int ma_nil))))) (ma_cons (me_frz (mf_disp (ma_cons me_int (ma_cons me_int (ma_cons me_int ma_nil))))) (ma_cons (me_frz (mf_disp (ma_cons me_int (ma_cons me_int (ma_cons me_int ma_nil))))) (ma_cons (me_frz (mf_disp (ma_cons me_int (ma_cons me_int (ma_cons me_int ma_nil))))) (ma_cons (me_frz (mf_disp (ma_cons me_int (ma_cons me_int (ma_cons me_int ma_nil))))) (ma_cons (me_frz (mf_disp (ma_cons me_int (ma_cons me_int (ma_cons me_int ma_nil))))) ma_nil)))))))) (me_call (ok_law_take T) (hr.mono (by decide)) (by rfl) T.m_law_take T.f_law_take.kp T.b_law_take (ma_cons (me_var 1) (ma_cons me_int ma_nil))))) (mss_cons (ms_set (i := 6) sc_law.nd (me_frz (mf_lc [7] (own := [("_law_k", 7)]) rfl sc_law.nd (mi_rng1 (by rfl) T.n_range me_int) (blkOk_by (by kernel_rfl)) rfl (fun _ _ _ _ _ => (mg_nm (i := 7) sc_law.nd)) (fun _ _ _ _ _ => mts_nil) (fun _ _ _ _ _ => (me_op o_sub me_int (me_op o_mul me_int (me_call (ok_law_take T) (hr.mono (by decide)) (by rfl) T.m_law_take T.f_law_take.kp T.b_law_take (ma_cons (me_var 1) (ma_cons me_int ma_nil)))))) (by decide)))) (mss_cons (ms_set (i := 8) sc_law.nd (me_op o_add me_int (me_op o_mul (me_call (ok_law_take T) (hr.mono (by decide)) (by rfl) T.m_law_take T.f_law_take.kp T.b_law_take (ma_cons (me_var 1) (ma_cons me_int ma_nil))) (me_call (ok_law_take T) (hr.mono (by decide)) (by rfl) T.m_law_take T.f_law_take.kp T.b_law_take (ma_cons (me_var 1) (ma_cons me_int ma_nil)))))) (mss_cons (ms_set (i := 9) sc_law.nd (me_frz (mf_lc [7] (own := [("_law_k", 7)]) rfl sc_law.nd (mi_rng1 (by rfl) T.n_range me_int) (blkOk_by (by kernel_rfl)) rfl (fun _ _ _ _ _ => (mg_nm (i := 7) sc_law.nd)) (fun _ _ _ _ _ => mts_nil) (fun _ _ _ _ _ => (me_op o_add (me_op o_sub (me_op o_mul (me_call (ok_law_take T) (hr.mono (by decide)) (by rfl) T.m_law_take T.f_law_take.kp T.b_law_take (ma_cons (me_var 1) (ma_cons me_int ma_nil))) me_int) (me_op o_mul (me_call (ok_law_take T) (hr.mono (by decide)) (by rfl) T.m_law_take T.f_law_take.kp T.b_law_take (ma_cons (me_var 1) (ma_cons me_int ma_nil))) me_int)) (me_call (ok_law_take T) (hr.mono (by decide)) (by rfl) T.m_law_take T.f_law_take.kp T.b_law_take (ma_cons (me_var 1) (ma_cons me_int ma_nil))))) (by decide)))) (mss_cons (ms_set (i := 10) sc_law.nd (me_frz (mf_disp (ma_cons (me_call (ok_law_moved T) (hr.mono (by decide)) (by rfl) T.m_law_moved T.f_law_moved.kp T.b_law_moved (ma_cons (me_cutT (me_var 2) mo_none (mo_some me_int)) (ma_cons (me_var 5) (ma_cons (me_var 6) (ma_cons (me_var 8) (ma_cons (me_var 9) ma_nil)))))) (ma_cons (me_call (ok_law_moved T) (hr.mono (by decide)) (by rfl) T.m_law_moved T.f_law_moved.kp T.b_law_moved (ma_cons (me_cutT (me_var 2) (mo_some me_int) mo_none) (ma_cons (me_var 5) (ma_cons (me_var 6) (ma_cons (me_var 8) (ma_cons (me_var 9) ma_nil)))))) ma_nil))))) (mss_cons (ms_frzLc (i := 11) [12] (own := [("_law_point", 12)]) rfl sc_law.nd rfl rfl (sw_true rfl rfl rfl (by decide +kernel)) (mi_seqC (me_var 3)) (blkOk_by (by kernel_rfl)) rfl (fun _ _ _ _ _ => (mg_nm (i := 12) sc_law.nd)) (fun _ _ _ _ _ => mts_nil) (fun _ _ _ _ _ => (me_call (ok_law_moved T) (hr.mono (by decide)) (by rfl) T.m_law_moved T.f_law_moved.kp T.b_law_moved (ma_cons (me_var 12) (ma_cons (me_var 5) (ma_cons (me_var 6) (ma_cons (me_var 8) (ma_cons (me_var 9) ma_nil))))))) (by decide)) (mss_cons (ms_set (i := 13) sc_law.nd (me_ix (me_frz (mf_disp (ma_cons (me_frz (mf_disp (ma_cons me_int (ma_cons me_int (ma_cons me_int ma_nil))))) (ma_cons (me_frz (mf_disp (ma_cons me_int (ma_cons me_int (ma_cons me_int ma_nil))))) (ma_cons (me_frz (mf_disp (ma_cons me_int (ma_cons me_int (ma_cons me_int ma_nil))))) (ma_cons (me_frz (mf_disp (ma_cons me_int (ma_cons me_int (ma_cons me_int ma_nil))))) (ma_cons (me_frz (mf_disp (ma_cons me_int (ma_cons me_int (ma_cons me_int ma_nil))))) (ma_cons (me_frz (mf_disp (ma_cons me_int (ma_cons me_int (ma_cons me_int ma_nil))))) ma_nil)))))))) (me_call (ok_law_take T) (hr.mono (by decide)) (by rfl) T.m_law_take T.f_law_take.kp T.b_law_take (ma_cons (me_var 1) (ma_cons me_int ma_nil))))) (mss_cons (ms_set (i := 14) sc_law.nd (me_tup (ma_cons (me_ix (me_var 11) (me_ix (me_var 13) me_int)) (ma_cons (me_ix (me_var 11) (me_ix (me_var 13) me_int)) (ma_cons (me_ix (me_var 11) (me_ix (me_var 13) me_int)) ma_nil))))) (mss_cons (ms_if (mt_cmp (o_ne hr.units) (me_call (ok_touches T) (hr.mono (by decide)) (by rfl) T.m_touches T.f_touches.kp T.b_touches (ma_cons (me_call (ok_law_box_of T) (hr.mono (by decide)) (by rfl) T.m_law_box_of T.f_law_box_of.kp T.b_law_box_of (ma_cons (me_ix (me_var 10) me_int) (ma_cons (me_ix (me_var 10) me_int) ma_nil))) (ma_cons (me_var 14) ma_nil))) (me_var 4) (nomark _)) (mss_one (ms_ret me_bl)) mss_nil) (mss_cons (ms_set (i := 15) sc_law.nd (me_frz (mf_lc [7] (own := [("_law_k", 7)]) rfl sc_law.nd (mi_rng1 (by rfl) T.n_range me_int) (blkOk_by (by kernel_rfl)) rfl (fun _ _ _ _ _ => (mg_nm (i := 7) sc_law.nd)) (fun _ _ _ _ _ => mts_nil) (fun _ _ _ _ _ => (me_call (ok_law_take T) (hr.mono (by decide)) (by rfl) T.m_law_take T.f_law_take.kp T.b_law_take (ma_cons (me_var 1) (ma_cons me_int ma_nil)))) (by decide)))) (mss_cons (ms_set (i := 16) sc_law.nd (me_ty1 f_tuple (by rfl) T.n_tuple (by decide +kernel) (me_frz (mf_cat (me_frz (mf_lc [7] (own := [("_law_k", 7)]) rfl sc_law.nd (mi_rng1 (by rfl) T.n_range me_int) (blkOk_by (by kernel_rfl)) rfl (fun _ _ _ _ _ => (mg_nm (i := 7) sc_law.nd)) (fun _ _ _ _ _ => mts_nil) (fun _ _ _ _ _ => (me_op o_sub (me_ix (me_var 2) (me_var 7)) (me_ix (me_var 15) (me_var 7)))) (by decide))) (me_frz (mf_lc [7] (own := [("_law_k", 7)]) rfl sc_law.nd (mi_rng2 (by rfl) T.n_range me_int me_int) (blkOk_by (by kernel_rfl)) rfl (fun _ _ _ _ _ => (mg_nm (i := 7) sc_law.nd)) (fun _ _ _ _ _ => mts_nil) (fun _ _ _ _ _ => (me_op o_add (me_ix (me_var 2) (me_var 7)) (me_ix (me_var 15) (me_var 7)))) (by decide))))))) (mss_cons (ms_if (PW.pt (mw_and (mt_tru (me_var 4)) (mw_and1 (mt_not (mt_tru (me_call (ok_touches T) (hr.mono (by decide)) (by rfl) T.m_touches T.f_touches.kp T.b_touches (ma_cons (me_var 16) (ma_cons (me_var 3) ma_nil)))))))) (mss_one (ms_ret me_bl)) mss_nil) (mss_cons (ms_asg (me_call (ok_law_doubled T) (hr.mono (by decide)) (by rfl) T.m_law_doubled T.f_law_doubled.kp T.b_law_doubled (ma_cons (me_var 3) ma_nil)) (mg_tp rfl (mgs_cons (mg_nm (i := 17) sc_law.nd) (mgs_cons (mg_nm (i := 18) sc_law.nd) (mgs_cons (mg_nm (i := 19) sc_law.nd) mgs_nil))))) (mss_cons (ms_set (i := 20) sc_law.nd (me_call (ok_law_middle T) (hr.mono (by decide)) (by rfl) T.m_law_middle T.f_law_middle.kp T.b_law_middle (ma_cons (me_var 17) (ma_cons (me_var 18) ma_nil)))) (mss_cons (ms_set (i := 21) sc_law.nd (me_ty1 f_tuple (by rfl) T.n_tuple (by decide +kernel) (me_frz (mf_lc [22] (own := [("_law_part", 22)]) rfl sc_law.nd (mi_seqC (me_var 2)) (blkOk_by (by kernel_rfl)) rfl (fun _ _ _ _ _ => (mg_nm (i := 22) sc_law.nd)) (fun _ _ _ _ _ => mts_nil) (fun _ _ _ _ _ => (me_op o_mul me_int (me_var 22))) (by decide))))) (mss_cons (ms_set (i := 23) sc_law.nd (me_call (ok_touches T) (hr.mono (by decide)) (by rfl) T.m_touches T.f_touches.kp T.b_touches (ma_cons (me_var 21) (ma_cons (me_tup (ma_cons (me_var 17) (ma_cons (me_var 20) (ma_cons (me_var 19) ma_nil)))) ma_nil)))) (mss_cons (ms_set (i := 24) sc_law.nd (me_call (ok_touches T) (hr.mono (by decide)) (by rfl) T.m_touches T.f_touches.kp T.b_touches (ma_cons (me_var 21) (ma_cons (me_tup (ma_cons (me_var 20) (ma_cons (me_var 18) (ma_cons (me_var 19) ma_nil)))) ma_nil)))) (mss_one (ms_ret (me_cmp (o_eq hr.units) (me_or (me_var 23) (me_one (me_var 24))) (me_var 4) (nomark _)))))))))))))))))))))))))
end
theorem all_mk {l : PySem.W.OpenLaw} {w : World} {K : PySem.W.Frag} {h : Heap} {mg : Str → Option Value} {fa : Addr} (X : K.In h) (G : h.Ns mainGlobals mg) (hfa : mg "law" = some (.ref fa))
    {f0 : Addr} {od0 an0 : Option Addr} {sl0 : Array (Option Value)} {oc0 kV0 dc0 pm0 cd0 ct0 : Value}
    (a0 : PySem.W.nsIn K mainGlobals "dot" = some (some (.ref f0))) (l0 : K.lookup f0 = some ⟨oc0, od0, .func (PySem.W.fnOf "dot" "dot" (defArgs s_dot) (defBody s_dot) (defScope s_dot) .none kV0 dc0 pm0 an0 cd0 ct0), sl0⟩) (c0 : PySem.W.codeIn K cd0 "dot" = true) (k0 : PySem.W.keepIn K (.ref f0) = true)
    {f1 : Addr} {od1 an1 : Option Addr} {sl1 : Array (Option Value)} {oc1 kV1 dc1 pm1 cd1 ct1 : Value}
    (a1 : PySem.W.nsIn K mainGlobals "cross" = some (some (.ref f1))) (l1 : K.lookup f1 = some ⟨oc1, od1, .func (PySem.W.fnOf "cross" "cross" (defArgs s_cross) (defBody s_cross) (defScope s_cross) .none kV1 dc1 pm1 an1 cd1 ct1), sl1⟩) (c1 : PySem.W.codeIn K cd1 "cross" = true) (k1 : PySem.W.keepIn K (.ref f1) = true)
    {f2 : Addr} {od2 an2 : Option Addr} {sl2 : Array (Option Value)} {oc2 kV2 dc2 pm2 cd2 ct2 : Value}
    (a2 : PySem.W.nsIn K mainGlobals "less" = some (some (.ref f2))) (l2 : K.lookup f2 = some ⟨oc2, od2, .func (PySem.W.fnOf "less" "less" (defArgs s_less) (defBody s_less) (defScope s_less) .none kV2 dc2 pm2 an2 cd2 ct2), sl2⟩) (c2 : PySem.W.codeIn K cd2 "less" = true) (k2 : PySem.W.keepIn K (.ref f2) = true)
    {f3 : Addr} {od3 an3 : Option Addr} {sl3 : Array (Option Value)} {oc3 kV3 dc3 pm3 cd3 ct3 : Value}
    (a3 : PySem.W.nsIn K mainGlobals "axes_of" = some (some (.ref f3))) (l3 : K.lookup f3 = some ⟨oc3, od3, .func (PySem.W.fnOf "axes_of" "axes_of" (defArgs s_axes_of) (defBody s_axes_of) (defScope s_axes_of) .none kV3 dc3 pm3 an3 cd3 ct3), sl3⟩) (c3 : PySem.W.codeIn K cd3 "axes_of" = true) (k3 : PySem.W.keepIn K (.ref f3) = true)
    {f4 : Addr} {od4 an4 : Option Addr} {sl4 : Array (Option Value)} {oc4 kV4 dc4 pm4 cd4 ct4 : Value}
    (a4 : PySem.W.nsIn K mainGlobals "span_of" = some (some (.ref f4))) (l4 : K.lookup f4 = some ⟨oc4, od4, .func (PySem.W.fnOf "span_of" "span_of" (defArgs s_span_of) (defBody s_span_of) (defScope s_span_of) .none kV4 dc4 pm4 an4 cd4 ct4), sl4⟩) (c4 : PySem.W.codeIn K cd4 "span_of" = true) (k4 : PySem.W.keepIn K (.ref f4) = true)
    {f5 : Addr} {od5 an5 : Option Addr} {sl5 : Array (Option Value)} {oc5 kV5 dc5 pm5 cd5 ct5 : Value}
    (a5 : PySem.W.nsIn K mainGlobals "is_empty" = some (some (.ref f5))) (l5 : K.lookup f5 = some ⟨oc5, od5, .func (PySem.W.fnOf "is_empty" "is_empty" (defArgs s_is_empty) (defBody s_is_empty) (defScope s_is_empty) .none kV5 dc5 pm5 an5 cd5 ct5), sl5⟩) (c5 : PySem.W.codeIn K cd5 "is_empty" = true) (k5 : PySem.W.keepIn K (.ref f5) = true)
    {f6 : Addr} {od6 an6 : Option Addr} {sl6 : Array (Option Value)} {oc6 kV6 dc6 pm6 cd6 ct6 : Value}
    (a6 : PySem.W.nsIn K mainGlobals "touches" = some (some (.ref f6))) (l6 : K.lookup f6 = some ⟨oc6, od6, .func (PySem.W.fnOf "touches" "touches" (defArgs s_touches) (defBody s_touches) (defScope s_touches) .none kV6 dc6 pm6 an6 cd6 ct6), sl6⟩) (c6 : PySem.W.codeIn K cd6 "touches" = true) (k6 : PySem.W.keepIn K (.ref f6) = true)
    {f7 : Addr} {od7 an7 : Option Addr} {sl7 : Array (Option Value)} {oc7 kV7 dc7 pm7 cd7 ct7 : Value}
    (a7 : PySem.W.nsIn K mainGlobals "_law_stream" = some (some (.ref f7))) (l7 : K.lookup f7 = some ⟨oc7, od7, .func (PySem.W.fnOf "_law_stream" "_law_stream" (defArgs s_law_stream) (defBody s_law_stream) (defScope s_law_stream) .none kV7 dc7 pm7 an7 cd7 ct7), sl7⟩) (c7 : PySem.W.codeIn K cd7 "_law_stream" = true) (k7 : PySem.W.keepIn K (.ref f7) = true)
    {f8 : Addr} {od8 an8 : Option Addr} {sl8 : Array (Option Value)} {oc8 kV8 dc8 pm8 cd8 ct8 : Value}
    (a8 : PySem.W.nsIn K mainGlobals "_law_take" = some (some (.ref f8))) (l8 : K.lookup f8 = some ⟨oc8, od8, .func (PySem.W.fnOf "_law_take" "_law_take" (defArgs s_law_take) (defBody s_law_take) (defScope s_law_take) .none kV8 dc8 pm8 an8 cd8 ct8), sl8⟩) (c8 : PySem.W.codeIn K cd8 "_law_take" = true) (k8 : PySem.W.keepIn K (.ref f8) = true)
    {f9 : Addr} {od9 an9 : Option Addr} {sl9 : Array (Option Value)} {oc9 kV9 dc9 pm9 cd9 ct9 : Value}
    (a9 : PySem.W.nsIn K mainGlobals "_law_box" = some (some (.ref f9))) (l9 : K.lookup f9 = some ⟨oc9, od9, .func (PySem.W.fnOf "_law_box" "_law_box" (defArgs s_law_box) (defBody s_law_box) (defScope s_law_box) .none kV9 dc9 pm9 an9 cd9 ct9), sl9⟩) (c9 : PySem.W.codeIn K cd9 "_law_box" = true) (k9 : PySem.W.keepIn K (.ref f9) = true)
    {f10 : Addr} {od10 an10 : Option Addr} {sl10 : Array (Option Value)} {oc10 kV10 dc10 pm10 cd10 ct10 : Value}
    (a10 : PySem.W.nsIn K mainGlobals "_law_triangle" = some (some (.ref f10))) (l10 : K.lookup f10 = some ⟨oc10, od10, .func (PySem.W.fnOf "_law_triangle" "_law_triangle" (defArgs s_law_triangle) (defBody s_law_triangle) (defScope s_law_triangle) .none kV10 dc10 pm10 an10 cd10 ct10), sl10⟩) (c10 : PySem.W.codeIn K cd10 "_law_triangle" = true) (k10 : PySem.W.keepIn K (.ref f10) = true)
    {f11 : Addr} {od11 an11 : Option Addr} {sl11 : Array (Option Value)} {oc11 kV11 dc11 pm11 cd11 ct11 : Value}
    (a11 : PySem.W.nsIn K mainGlobals "_law_moved" = some (some (.ref f11))) (l11 : K.lookup f11 = some ⟨oc11, od11, .func (PySem.W.fnOf "_law_moved" "_law_moved" (defArgs s_law_moved) (defBody s_law_moved) (defScope s_law_moved) .none kV11 dc11 pm11 an11 cd11 ct11), sl11⟩) (c11 : PySem.W.codeIn K cd11 "_law_moved" = true) (k11 : PySem.W.keepIn K (.ref f11) = true)
    {f12 : Addr} {od12 an12 : Option Addr} {sl12 : Array (Option Value)} {oc12 kV12 dc12 pm12 cd12 ct12 : Value}
    (a12 : PySem.W.nsIn K mainGlobals "_law_box_of" = some (some (.ref f12))) (l12 : K.lookup f12 = some ⟨oc12, od12, .func (PySem.W.fnOf "_law_box_of" "_law_box_of" (defArgs s_law_box_of) (defBody s_law_box_of) (defScope s_law_box_of) .none kV12 dc12 pm12 an12 cd12 ct12), sl12⟩) (c12 : PySem.W.codeIn K cd12 "_law_box_of" = true) (k12 : PySem.W.keepIn K (.ref f12) = true)
    {f13 : Addr} {od13 an13 : Option Addr} {sl13 : Array (Option Value)} {oc13 kV13 dc13 pm13 cd13 ct13 : Value}
    (a13 : PySem.W.nsIn K mainGlobals "_law_middle" = some (some (.ref f13))) (l13 : K.lookup f13 = some ⟨oc13, od13, .func (PySem.W.fnOf "_law_middle" "_law_middle" (defArgs s_law_middle) (defBody s_law_middle) (defScope s_law_middle) .none kV13 dc13 pm13 an13 cd13 ct13), sl13⟩) (c13 : PySem.W.codeIn K cd13 "_law_middle" = true) (k13 : PySem.W.keepIn K (.ref f13) = true)
    {f14 : Addr} {od14 an14 : Option Addr} {sl14 : Array (Option Value)} {oc14 kV14 dc14 pm14 cd14 ct14 : Value}
    (a14 : PySem.W.nsIn K mainGlobals "_law_doubled" = some (some (.ref f14))) (l14 : K.lookup f14 = some ⟨oc14, od14, .func (PySem.W.fnOf "_law_doubled" "_law_doubled" (defArgs s_law_doubled) (defBody s_law_doubled) (defScope s_law_doubled) .none kV14 dc14 pm14 an14 cd14 ct14), sl14⟩) (c14 : PySem.W.codeIn K cd14 "_law_doubled" = true) (k14 : PySem.W.keepIn K (.ref f14) = true)
    {f15 : Addr} {od15 an15 : Option Addr} {sl15 : Array (Option Value)} {oc15 kV15 dc15 pm15 cd15 ct15 : Value}
    (a15 : PySem.W.nsIn K mainGlobals "law" = some (some (.ref f15))) (l15 : K.lookup f15 = some ⟨oc15, od15, .func (PySem.W.fnOf "law" "law" (defArgs s_law) (defBody s_law) (defScope s_law) .none kV15 dc15 pm15 an15 cd15 ct15), sl15⟩) (c15 : PySem.W.codeIn K cd15 "law" = true) (k15 : PySem.W.keepIn K (.ref f15) = true)
    (n_abs : PySem.W.nsIn K mainGlobals "abs" = some none)    (n_any : PySem.W.nsIn K mainGlobals "any" = some none)    (n_int : PySem.W.nsIn K mainGlobals "int" = some none)    (n_len : PySem.W.nsIn K mainGlobals "len" = some none)    (n_max : PySem.W.nsIn K mainGlobals "max" = some none)    (n_min : PySem.W.nsIn K mainGlobals "min" = some none)    (n_range : PySem.W.nsIn K mainGlobals "range" = some none)    (n_tuple : PySem.W.nsIn K mainGlobals "tuple" = some none) :
    ∃ fd : FuncData, (∀ (s : Shared) (v : Value), BindsTo s fd ⟨[v], []⟩ [("_law_script", v)]) ∧ ∀ base : Heap, K.In base → base.Ns mainGlobals mg → FnOk l.prog w K mg base CX0 4 fa fd ["_law_script"] (spM 1 ⟨K, []⟩ m_law) := by
  have e := hfa.symm.trans (PySem.W.mg_of X G a15)
  cases e
  have F0 := fun_mk (st := s_dot) l0 c0 k0
  have F1 := fun_mk (st := s_cross) l1 c1 k1
  have F2 := fun_mk (st := s_less) l2 c2 k2
  have F3 := fun_mk (st := s_axes_of) l3 c3 k3
  have F4 := fun_mk (st := s_span_of) l4 c4 k4
  have F5 := fun_mk (st := s_is_empty) l5 c5 k5
  have F6 := fun_mk (st := s_touches) l6 c6 k6
  have F7 := fun_mk (st := s_law_stream) l7 c7 k7
  have F8 := fun_mk (st := s_law_take) l8 c8 k8
  have F9 := fun_mk (st := s_law_box) l9 c9 k9
  have F10 := fun_mk (st := s_law_triangle) l10 c10 k10
  have F11 := fun_mk (st := s_law_moved) l11 c11 k11
  have F12 := fun_mk (st := s_law_box_of) l12 c12 k12
  have F13 := fun_mk (st := s_law_middle) l13 c13 k13
  have F14 := fun_mk (st := s_law_doubled) l14 c14 k14
  have F15 := fun_mk (st := s_law) l15 c15 k15
  let T : Txt ⟨K, []⟩ mg := {
    a_dot := f0, d_dot := _, f_dot := F0, m_dot := PySem.W.mg_of X G a0, b_dot := F0.binds (ps := ["one", "two"]) fun _ _ _ _ _ _ us hl => match us, hl with | [_, _], _ => rfl,
    a_cross := f1, d_cross := _, f_cross := F1, m_cross := PySem.W.mg_of X G a1, b_cross := F1.binds (ps := ["one", "two"]) fun _ _ _ _ _ _ us hl => match us, hl with | [_, _], _ => rfl,
    a_less := f2, d_less := _, f_less := F2, m_less := PySem.W.mg_of X G a2, b_less := F2.binds (ps := ["one", "two"]) fun _ _ _ _ _ _ us hl => match us, hl with | [_, _], _ => rfl,
    a_axes_of := f3, d_axes_of := _, f_axes_of := F3, m_axes_of := PySem.W.mg_of X G a3, b_axes_of := F3.binds (ps := ["triangle"]) fun _ _ _ _ _ _ us hl => match us, hl with | [_], _ => rfl,
    a_span_of := f4, d_span_of := _, f_span_of := F4, m_span_of := PySem.W.mg_of X G a4, b_span_of := F4.binds (ps := ["box", "axis"]) fun _ _ _ _ _ _ us hl => match us, hl with | [_, _], _ => rfl,
    a_is_empty := f5, d_is_empty := _, f_is_empty := F5, m_is_empty := PySem.W.mg_of X G a5, b_is_empty := F5.binds (ps := ["box"]) fun _ _ _ _ _ _ us hl => match us, hl with | [_], _ => rfl,
    a_touches := f6, d_touches := _, f_touches := F6, m_touches := PySem.W.mg_of X G a6, b_touches := F6.binds (ps := ["box", "triangle"]) fun _ _ _ _ _ _ us hl => match us, hl with | [_, _], _ => rfl,
    a_law_stream := f7, d_law_stream := _, f_law_stream := F7, m_law_stream := PySem.W.mg_of X G a7, b_law_stream := F7.binds (ps := ["_law_script"]) fun _ _ _ _ _ _ us hl => match us, hl with | [_], _ => rfl,
    a_law_take := f8, d_law_take := _, f_law_take := F8, m_law_take := PySem.W.mg_of X G a8, b_law_take := F8.binds (ps := ["_law_row", "_law_many"]) fun _ _ _ _ _ _ us hl => match us, hl with | [_, _], _ => rfl,
    a_law_box := f9, d_law_box := _, f_law_box := F9, m_law_box := PySem.W.mg_of X G a9, b_law_box := F9.binds (ps := ["_law_row"]) fun _ _ _ _ _ _ us hl => match us, hl with | [_], _ => rfl,
    a_law_triangle := f10, d_law_triangle := _, f_law_triangle := F10, m_law_triangle := PySem.W.mg_of X G a10, b_law_triangle := F10.binds (ps := ["_law_row"]) fun _ _ _ _ _ _ us hl => match us, hl with | [_], _ => rfl,
    a_law_moved := f11, d_law_moved := _, f_law_moved := F11, m_law_moved := PySem.W.mg_of X G a11, b_law_moved := F11.binds (ps := ["_law_point", "_law_order", "_law_signs", "_law_times", "_law_shift"]) fun _ _ _ _ _ _ us hl => match us, hl with | [_, _, _, _, _], _ => rfl,
    a_law_box_of := f12, d_law_box_of := _, f_law_box_of := F12, m_law_box_of := PySem.W.mg_of X G a12, b_law_box_of := F12.binds (ps := ["_law_one", "_law_two"]) fun _ _ _ _ _ _ us hl => match us, hl with | [_, _], _ => rfl,
    a_law_middle := f13, d_law_middle := _, f_law_middle := F13, m_law_middle := PySem.W.mg_of X G a13, b_law_middle := F13.binds (ps := ["_law_one", "_law_two"]) fun _ _ _ _ _ _ us hl => match us, hl with | [_, _], _ => rfl,
    a_law_doubled := f14, d_law_doubled := _, f_law_doubled := F14, m_law_doubled := PySem.W.mg_of X G a14, b_law_doubled := F14.binds (ps := ["_law_points"]) fun _ _ _ _ _ _ us hl => match us, hl with | [_], _ => rfl,
    a_law := fa, d_law := _, f_law := F15, m_law := PySem.W.mg_of X G a15, b_law := F15.binds (ps := ["_law_script"]) fun _ _ _ _ _ _ us hl => match us, hl with | [_], _ => rfl,
    n_abs := PySem.W.mg_none_of X G n_abs,
    n_any := PySem.W.mg_none_of X G n_any,
    n_int := PySem.W.mg_none_of X G n_int,
    n_len := PySem.W.mg_none_of X G n_len,
    n_max := PySem.W.mg_none_of X G n_max,
    n_min := PySem.W.mg_none_of X G n_min,
    n_range := PySem.W.mg_none_of X G n_range,
    n_tuple := PySem.W.mg_none_of X G n_tuple }
  exact ⟨PySem.W.fnOf "law" "law" (defArgs s_law) (defBody s_law) (defScope s_law) .none kV15 dc15 pm15 an15 cd15 ct15, fun s v => .of_eq rfl, fun base _ _ => ok_law T⟩

end K24

open PySem PySem.W PyProof.Rows
set_option maxRecDepth 100000 in
set_option maxHeartbeats 0 in
theorem PySem.Challenge.cw_footpath_k24_boxes_anywhere_holds : PySem.Challenge.rw_footpath_k24_boxes_anywhere.Holds := by
  w_on; o_law; k_head; (case hw => w_witness2)
  k_fill
  refine Mi.walk (l := PySem.Challenge.rw_footpath_k24_boxes_anywhere) (k := 4) (x := "_law_script") (mf := K24.m_law) rfl rfl ⟨rfl, by decide, by decide⟩ (fun w h Y => PySem.W.kIn_of Y) ?F K24.law_true
  case F =>
    intro w mg fa h KX G hmg
    refine' K24.all_mk KX G hmg ?a0 ?l0 ?c0 ?k0 ?a1 ?l1 ?c1 ?k1 ?a2 ?l2 ?c2 ?k2 ?a3 ?l3 ?c3 ?k3 ?a4 ?l4 ?c4 ?k4 ?a5 ?l5 ?c5 ?k5 ?a6 ?l6 ?c6 ?k6 ?a7 ?l7 ?c7 ?k7 ?a8 ?l8 ?c8 ?k8 ?a9 ?l9 ?c9 ?k9 ?a10 ?l10 ?c10 ?k10 ?a11 ?l11 ?c11 ?k11 ?a12 ?l12 ?c12 ?k12 ?a13 ?l13 ?c13 ?k13 ?a14 ?l14 ?c14 ?k14 ?a15 ?l15 ?c15 ?k15 ?n_abs ?n_any ?n_int ?n_len ?n_max ?n_min ?n_range ?n_tuple
    (case a0 => k_is)
    (case l0 => k_is)
    (case c0 => k_is)
    (case k0 => k_is)
    (case a1 => k_is)
    (case l1 => k_is)
    (case c1 => k_is)
    (case k1 => k_is)
    (case a2 => k_is)
    (case l2 => k_is)
    (case c2 => k_is)
    (case k2 => k_is)
    (case a3 => k_is)
    (case l3 => k_is)
    (case c3 => k_is)
    (case k3 => k_is)
    (case a4 => k_is)
    (case l4 => k_is)
    (case c4 => k_is)
    (case k4 => k_is)
    (case a5 => k_is)
    (case l5 => k_is)
    (case c5 => k_is)
    (case k5 => k_is)
    (case a6 => k_is)
    (case l6 => k_is)
    (case c6 => k_is)
    (case k6 => k_is)
    (case a7 => k_is)
    (case l7 => k_is)
    (case c7 => k_is)
    (case k7 => k_is)
    (case a8 => k_is)
    (case l8 => k_is)
    (case c8 => k_is)
    (case k8 => k_is)
    (case a9 => k_is)
    (case l9 => k_is)
    (case c9 => k_is)
    (case k9 => k_is)
    (case a10 => k_is)
    (case l10 => k_is)
    (case c10 => k_is)
    (case k10 => k_is)
    (case a11 => k_is)
    (case l11 => k_is)
    (case c11 => k_is)
    (case k11 => k_is)
    (case a12 => k_is)
    (case l12 => k_is)
    (case c12 => k_is)
    (case k12 => k_is)
    (case a13 => k_is)
    (case l13 => k_is)
    (case c13 => k_is)
    (case k13 => k_is)
    (case a14 => k_is)
    (case l14 => k_is)
    (case c14 => k_is)
    (case k14 => k_is)
    (case a15 => k_is)
    (case l15 => k_is)
    (case c15 => k_is)
    (case k15 => k_is)
    (case n_abs => k_is)
    (case n_any => k_is)
    (case n_int => k_is)
    (case n_len => k_is)
    (case n_max => k_is)
    (case n_min => k_is)
    (case n_range => k_is)
    (case n_tuple => k_is)
