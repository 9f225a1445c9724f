import PyProof.Rows.All
import Wide.All
import OpenK.AllK
import Wide.FinOn
import HandS.ForMost
import HandS.ForExc
import HandS.ExcInit
import HandS.Star
import HandS.MakeKwOnly
import HandS.ExcValue
import HandS.Wide
import HandS.SetFor
import HandS.Lambda
import HandS.ExcIs
import PyProof.ReprRoads
import HandS.IsInst
import KE.KExcIs
import PySem.Challenge.RW_figurelines_k12_errors_and_limits
set_option Elab.async false
set_option linter.all false
set_option maxRecDepth 100000
set_option maxHeartbeats 1000000
/-! DL: data without a heap over the hand layer. D: data; cells: the things that change, by number; a reading w says of names' data and cells what an expression gives. -/
namespace DL
open PySem PySem.Spec PyProof.Rows L2

inductive D where
  | non | bl (b : Bool) | int (i : Int) | str (s : Str)
  | tup (xs : List D) | lst (xs : List D) | rol (xs : List D)
  | dct (ks : List Key) (xs : List D)
  | ins (C : Addr) (ns : List Str) (xs : List D)
  | exc (C : Addr) (ns : List Str) (xs : List D)
  | exc0 (C : Addr)
  | cell (j : Nat)
  | obj (a : Addr)
  | ty (n : String)
  deriving Inhabited

/-- what changes -/
inductive MO where
  | lst (xs : List D)
  | dct (ks : List Key) (xs : List D)
  | ins (C : Addr) (ns : List Str) (xs : List D)
  | gone
  deriving Inhabited

abbrev Ex (H H' : Hp) : Prop := ∀ a o, H a = some o → H' a = some o
theorem Ex.refl (H : Hp) : Ex H H := fun _ _ h => h
theorem Ex.trans {H H1 H2 : Hp} (a : Ex H H1) (b : Ex H1 H2) : Ex H H2 := fun x o h => b x o (a x o h)
theorem Ex.new {H : Hp} {p : Addr} {o : HO} (h : H p = none) : Ex H (upd H p o) := fun a u e => by
  have : a ≠ p := fun q => by rw [q, h] at e; cases e
  rw [upd_ne this]; exact e

theorem rd_ex {H H' : Hp} {a : Addr} {u : HO} (e : Ex H H') (h : Rd H a u) : Rd H' a u := by
  rcases h with h | ⟨o, h⟩
  · exact .inl (e _ _ h)
  · exact .inr ⟨o, e _ _ h⟩
theorem sql_ex {K : PySem.W.Frag} {H H' : Hp} {a : Addr} {xs : List V} (e : Ex H H') (h : SqL K H a xs) : SqL K H' a xs := by
  rcases h with h | h
  · exact .inl (rd_ex e h)
  · exact .inr h
theorem sqt_ex {K : PySem.W.Frag} {H H' : Hp} {a : Addr} {xs : List V} (e : Ex H H') (h : SqT K H a xs) : SqT K H' a xs := by
  rcases h with h | h
  · exact .inl (rd_ex e h)
  · exact .inr h

section
variable (K : PySem.W.Frag) (I : Hp) (θ : List Addr)
mutual
/-- the value v is the data d, as I (what never changes) and θ (where the cells stand) tell -/
def Rep : D → V → Prop
  | .non, v => v = .non
  | .bl b, v => v = .bl b
  | .int i, v => v = .int i
  | .str s, v => v = .str s
  | .tup ds, v => ∃ a vs, v = .ref a ∧ SqT K I a vs ∧ RepL ds vs
  | .lst ds, v => ∃ a vs, v = .ref a ∧ I a = some (.lst vs) ∧ RepL ds vs
  | .rol ds, v => ∃ a vs, v = .ref a ∧ SqL K I a vs ∧ RepL ds vs
  | .dct ks ds, v => ∃ a vs, v = .ref a ∧ I a = some (.dK (ks.zip vs)) ∧ ks.length = vs.length ∧ RepL ds vs
  | .ins C ns ds, v => ∃ a dx vs, v = .ref a ∧ I a = some (.ins C dx (ns.zip vs)) ∧ ns.length = vs.length ∧ RepL ds vs
  | .exc C ns ds, v => ∃ a dx vs, v = .ref a ∧ I a = some (exo a C (some dx)) ∧ I dx = some (exd dx (ns.zip vs)) ∧ ns.length = vs.length ∧ RepL ds vs
  | .exc0 C, v => ∃ a, v = .ref a ∧ I a = some (ExO (.ref C) a)
  | .cell j, v => ∃ a, θ[j]? = some a ∧ v = .ref a
  | .obj a, v => v = .ref a
  | .ty n, v => v = .ty n
def RepL : List D → List V → Prop
  | [], vs => vs = []
  | d :: ds, vs => ∃ v vs', vs = v :: vs' ∧ Rep d v ∧ RepL ds vs'
end
end

section
variable {K : PySem.W.Frag} {I I' H H' : Hp} {θ θ' : List Addr}
mutual
theorem Rep.mono (e : Ex I I') (t : ∀ (j : Nat) (a : Addr), θ[j]? = some a → θ'[j]? = some a) : ∀ {d : D} {v : V}, Rep K I θ d v → Rep K I' θ' d v
  | .non, v, h => by unfold Rep at *; exact h
  | .bl b, v, h => by unfold Rep at *; exact h
  | .int i, v, h => by unfold Rep at *; exact h
  | .str s, v, h => by unfold Rep at *; exact h
  | .tup ds, v, h => by unfold Rep at *; obtain ⟨a, vs, e1, e2, e3⟩ := h; exact ⟨a, vs, e1, sqt_ex e e2, RepL.mono e t e3⟩
  | .lst ds, v, h => by unfold Rep at *; obtain ⟨a, vs, e1, e2, e3⟩ := h; exact ⟨a, vs, e1, e _ _ e2, RepL.mono e t e3⟩
  | .rol ds, v, h => by unfold Rep at *; obtain ⟨a, vs, e1, e2, e3⟩ := h; exact ⟨a, vs, e1, sql_ex e e2, RepL.mono e t e3⟩
  | .dct ks ds, v, h => by unfold Rep at *; obtain ⟨a, vs, e1, e2, e3, e4⟩ := h; exact ⟨a, vs, e1, e _ _ e2, e3, RepL.mono e t e4⟩
  | .ins C ns ds, v, h => by unfold Rep at *; obtain ⟨a, dx, vs, e1, e2, e3, e4⟩ := h; exact ⟨a, dx, vs, e1, e _ _ e2, e3, RepL.mono e t e4⟩
  | .exc C ns ds, v, h => by unfold Rep at *; obtain ⟨a, dx, vs, e1, e2, e3, e4, e5⟩ := h; exact ⟨a, dx, vs, e1, e _ _ e2, e _ _ e3, e4, RepL.mono e t e5⟩
  | .exc0 C, v, h => by unfold Rep at *; obtain ⟨a, e1, e2⟩ := h; exact ⟨a, e1, e _ _ e2⟩
  | .cell j, v, h => by unfold Rep at *; obtain ⟨a, e1, e2⟩ := h; exact ⟨a, t _ _ e1, e2⟩
  | .obj a, v, h => by unfold Rep at *; exact h
  | .ty n, v, h => by unfold Rep at *; exact h
theorem RepL.mono (e : Ex I I') (t : ∀ (j : Nat) (a : Addr), θ[j]? = some a → θ'[j]? = some a) : ∀ {ds : List D} {vs : List V}, RepL K I θ ds vs → RepL K I' θ' ds vs
  | [], vs, h => by unfold RepL at *; exact h
  | d :: ds, vs, h => by unfold RepL at *; obtain ⟨v, vs', e1, e2, e3⟩ := h; exact ⟨v, vs', e1, Rep.mono e t e2, RepL.mono e t e3⟩
end
theorem repL_nil : RepL K I θ [] [] := by unfold RepL; rfl
theorem repL_cons {d : D} {ds : List D} {v : V} {vs : List V} (h : Rep K I θ d v) (r : RepL K I θ ds vs) : RepL K I θ (d :: ds) (v :: vs) := by unfold RepL; exact ⟨v, vs, rfl, h, r⟩
theorem repL_len : ∀ {ds : List D} {vs : List V}, RepL K I θ ds vs → vs.length = ds.length
  | [], vs, h => by unfold RepL at h; rw [h]; rfl
  | d :: ds, vs, h => by unfold RepL at h; obtain ⟨v, vs', rfl, _, h⟩ := h; rw [List.length_cons, List.length_cons, repL_len h]
theorem repL_get : ∀ {ds : List D} {vs : List V} {i : Nat} {d : D}, RepL K I θ ds vs → ds[i]? = some d → ∃ v, vs[i]? = some v ∧ Rep K I θ d v
  | [], vs, i, d, h, e => by simp at e
  | x :: ds, vs, i, d, h, e => by
    unfold RepL at h; obtain ⟨v, vs', rfl, h1, h2⟩ := h
    cases i with
    | zero => simp at e; subst e; exact ⟨v, rfl, h1⟩
    | succ i => simpa using repL_get (i := i) h2 (by simpa using e)
theorem repL_get' : ∀ {ds : List D} {vs : List V} {i : Nat} {v : V}, RepL K I θ ds vs → vs[i]? = some v → ∃ d, ds[i]? = some d ∧ Rep K I θ d v
  | [], vs, i, v, h, e => by unfold RepL at h; subst h; simp at e
  | x :: ds, vs, i, v, h, e => by
    unfold RepL at h; obtain ⟨v', vs', rfl, h1, h2⟩ := h
    cases i with
    | zero => simp at e; subst e; exact ⟨x, rfl, h1⟩
    | succ i => simpa using repL_get' (i := i) h2 (by simpa using e)
theorem repL_app : ∀ {ds es : List D} {vs us : List V}, RepL K I θ ds vs → RepL K I θ es us → RepL K I θ (ds ++ es) (vs ++ us)
  | [], es, vs, us, h, h' => by unfold RepL at h; subst h; exact h'
  | d :: ds, es, vs, us, h, h' => by
    unfold RepL at h; obtain ⟨v, vs', rfl, h1, h2⟩ := h
    exact repL_cons h1 (repL_app h2 h')
theorem repL_set : ∀ {ds : List D} {vs : List V} {d : D} {v : V} (i : Nat), RepL K I θ ds vs → Rep K I θ d v → RepL K I θ (ds.set i d) (vs.set i v)
  | [], vs, d, v, i, h, h' => by unfold RepL at h; subst h; simpa using repL_nil
  | x :: ds, vs, d, v, i, h, h' => by
    unfold RepL at h; obtain ⟨v', vs', rfl, h1, h2⟩ := h
    cases i with
    | zero => exact repL_cons h' h2
    | succ i => exact repL_cons h1 (repL_set i h2 h')
theorem repL_take : ∀ {ds : List D} {vs : List V} (n : Nat), RepL K I θ ds vs → RepL K I θ (ds.take n) (vs.take n)
  | ds, vs, 0, h => by simpa using repL_nil
  | [], vs, n + 1, h => by unfold RepL at h; subst h; simpa using repL_nil
  | x :: ds, vs, n + 1, h => by
    unfold RepL at h; obtain ⟨v', vs', rfl, h1, h2⟩ := h
    exact repL_cons h1 (repL_take n h2)
theorem repL_drop : ∀ {ds : List D} {vs : List V} (n : Nat), RepL K I θ ds vs → RepL K I θ (ds.drop n) (vs.drop n)
  | ds, vs, 0, h => by simpa using h
  | [], vs, n + 1, h => by unfold RepL at h; subst h; simpa using repL_nil
  | x :: ds, vs, n + 1, h => by
    unfold RepL at h; obtain ⟨v', vs', rfl, h1, h2⟩ := h
    exact repL_drop n h2
theorem repL_rev {ds : List D} {vs : List V} (h : RepL K I θ ds vs) : RepL K I θ ds.reverse vs.reverse := by
  induction ds generalizing vs with
  | nil => unfold RepL at h; subst h; exact repL_nil
  | cons x ds ih =>
    unfold RepL at h; obtain ⟨v', vs', rfl, h1, h2⟩ := h
    rw [List.reverse_cons, List.reverse_cons]
    exact repL_app (ih h2) (repL_cons h1 repL_nil)
theorem repL_rep {d : D} {v : V} (h : Rep K I θ d v) : ∀ n : Nat, RepL K I θ (List.replicate n d) (List.replicate n v)
  | 0 => repL_nil
  | n + 1 => repL_cons h (repL_rep h n)
theorem rep_int {i : Int} : Rep K I θ (.int i) (.int i) := by unfold Rep; rfl
theorem rep_bl {b : Bool} : Rep K I θ (.bl b) (.bl b) := by unfold Rep; rfl
theorem rep_str {s : Str} : Rep K I θ (.str s) (.str s) := by unfold Rep; rfl
theorem rep_non : Rep K I θ .non .non := by unfold Rep; rfl
theorem rep_lst {a : Addr} {vs : List V} {ds : List D} (h : I a = some (.lst vs)) (r : RepL K I θ ds vs) : Rep K I θ (.lst ds) (.ref a) := by unfold Rep; exact ⟨a, vs, rfl, h, r⟩
theorem rep_tup {a : Addr} {vs : List V} {ds : List D} (h : SqT K I a vs) (r : RepL K I θ ds vs) : Rep K I θ (.tup ds) (.ref a) := by unfold Rep; exact ⟨a, vs, rfl, h, r⟩
theorem rep_cell {a : Addr} {j : Nat} (h : θ[j]? = some a) : Rep K I θ (.cell j) (.ref a) := by unfold Rep; exact ⟨a, h, rfl⟩
theorem repL_ints {ns : List Int} {vs : List V} (h : RepL K I θ (ns.map D.int) vs) : vs = ns.map V.int := by
  induction ns generalizing vs with
  | nil => unfold List.map at h; unfold RepL at h; exact h
  | cons n ns ih => unfold List.map at h; unfold RepL at h; obtain ⟨v, vs', rfl, h1, h2⟩ := h; unfold Rep at h1; rw [h1, ih h2]; rfl
theorem repL_strs {ns : List Str} {vs : List V} (h : RepL K I θ (ns.map D.str) vs) : vs = ns.map V.str := by
  induction ns generalizing vs with
  | nil => unfold List.map at h; unfold RepL at h; exact h
  | cons n ns ih => unfold List.map at h; unfold RepL at h; obtain ⟨v, vs', rfl, h1, h2⟩ := h; unfold Rep at h1; rw [h1, ih h2]; rfl
theorem repL_bls {ns : List Bool} {vs : List V} (h : RepL K I θ (ns.map D.bl) vs) : vs = ns.map V.bl := by
  induction ns generalizing vs with
  | nil => unfold List.map at h; unfold RepL at h; exact h
  | cons n ns ih => unfold List.map at h; unfold RepL at h; obtain ⟨v, vs', rfl, h1, h2⟩ := h; unfold Rep at h1; rw [h1, ih h2]; rfl
theorem repL_of_ints (ns : List Int) : RepL K I θ (ns.map D.int) (ns.map V.int) := by
  induction ns with
  | nil => exact repL_nil
  | cons n ns ih => exact repL_cons rep_int ih
end

abbrev Cells := List MO
/-- at a the cell m stands -/
def MRep (K : PySem.W.Frag) (I : Hp) (θ : List Addr) (H : Hp) (a : Addr) : MO → Prop
  | .lst ds => I a = none ∧ ∃ vs, H a = some (.lst vs) ∧ RepL K I θ ds vs
  | .dct ks ds => I a = none ∧ ∃ vs, H a = some (.dK (ks.zip vs)) ∧ ks.length = vs.length ∧ RepL K I θ ds vs
  | .ins C ns ds => I a = none ∧ ∃ dx vs, H a = some (.ins C dx (ns.zip vs)) ∧ ns.length = vs.length ∧ RepL K I θ ds vs
  | .gone => True
structure Ok (K : PySem.W.Frag) (I H : Hp) (θ : List Addr) (c : Cells) : Prop where
  ext : Ex I H
  len : θ.length = c.length
  nod : θ.Nodup
  trk : ∀ a ∈ θ, H a ≠ none
  cell : ∀ (j : Nat) (a : Addr) (m : MO), θ[j]? = some a → c[j]? = some m → MRep K I θ H a m
structure Step (I H : Hp) (θ : List Addr) (I' H' : Hp) (θ' : List Addr) : Prop where
  ext : Ex I I'
  th : ∃ t, θ' = θ ++ t ∧ ∀ a ∈ t, H a = none
  keep : ∀ a o, H a = some o → a ∉ θ → (∀ ps, o ≠ .tbl ps) → H' a = some o
  keepI : ∀ a, H a ≠ none → a ∉ θ → I a = none → I' a = none
  there : ∀ a, H a ≠ none → H' a ≠ none
theorem nodup_ix2 {l : List Addr} (h : l.Nodup) {i j : Nat} {a : Addr} (h1 : l[i]? = some a) (h2 : l[j]? = some a) : i = j := by
  obtain ⟨l1, e1⟩ := List.getElem?_eq_some_iff.mp h1
  obtain ⟨l2, e2⟩ := List.getElem?_eq_some_iff.mp h2
  have hp := List.pairwise_iff_getElem.mp h
  rcases Nat.lt_trichotomy i j with q | q | q
  · exact absurd (e1.trans e2.symm) (hp i j l1 l2 q)
  · exact q
  · exact absurd (e2.trans e1.symm) (hp j i l2 l1 q)
section
variable {K : PySem.W.Frag} {I I' I'' H H' H'' : Hp} {θ θ' θ'' : List Addr} {c c' : Cells}
theorem Step.refl : Step I H θ I H θ := ⟨Ex.refl _, ⟨[], by simp, by simp⟩, fun _ _ h _ _ => h, fun _ _ _ h => h, fun _ h => h⟩
theorem Step.at (s : Step I H θ I' H' θ') : ∀ (j : Nat) (a : Addr), θ[j]? = some a → θ'[j]? = some a := by
  obtain ⟨t, rfl, _⟩ := s.th
  intro j a h
  rw [List.getElem?_append_left (List.getElem?_eq_some_iff.mp h).1]; exact h
theorem Step.trans (s : Step I H θ I' H' θ') (s' : Step I' H' θ' I'' H'' θ'') : Step I H θ I'' H'' θ'' := by
  obtain ⟨t, e, ht⟩ := s.th
  obtain ⟨t', e', ht'⟩ := s'.th
  have nin : ∀ a, H a ≠ none → a ∉ θ → a ∉ θ' := fun a h n m => by
    rw [e, List.mem_append] at m
    rcases m with m | m
    · exact n m
    · exact h (ht a m)
  refine ⟨s.ext.trans s'.ext, ⟨t ++ t', by rw [e', e, List.append_assoc], fun a m => ?_⟩, fun a o h n q => ?_, fun a h n q => ?_, fun a h => s'.there a (s.there a h)⟩
  · rcases List.mem_append.mp m with m | m
    · exact ht a m
    · cases q : H a with
      | none => rfl
      | some o => exact absurd (ht' a m) (s.there a (by rw [q]; exact fun z => nomatch z))
  · exact s'.keep a o (s.keep a o h n q) (nin a (by rw [h]; exact fun z => nomatch z) n) q
  · exact s'.keepI a (s.there a h) (nin a h n) (s.keepI a h n q)
theorem Step.rep (s : Step I H θ I' H' θ') {d : D} {v : V} (h : Rep K I θ d v) : Rep K I' θ' d v := h.mono s.ext s.at
theorem Step.repL (s : Step I H θ I' H' θ') {d : List D} {v : List V} (h : RepL K I θ d v) : RepL K I' θ' d v := h.mono s.ext s.at
theorem Ok.free (o : Ok K I H θ c) {p : Addr} (h : H p = none) : I p = none := by
  cases e : I p with
  | none => rfl
  | some u => rw [o.ext _ _ e] at h; cases h
/-- a new thing that never changes -/
theorem Ok.new (o : Ok K I H θ c) {p : Addr} {u : HO} (h : H p = none) : Ok K (upd I p u) (upd H p u) θ c ∧ Step I H θ (upd I p u) (upd H p u) θ := by
  have hi := o.free h
  have hp : ∀ a ∈ θ, a ≠ p := fun a m e => o.trk a m (by rw [e]; exact h)
  have he : Ex I (upd I p u) := Ex.new hi
  have hpn : ∀ a, H a ≠ none → a ≠ p := fun a k e => k (by rw [e]; exact h)
  refine ⟨⟨fun a x e => ?_, o.len, o.nod, fun a m => by rw [upd_ne (hp a m)]; exact o.trk a m, fun j a m h1 h2 => ?_⟩, ⟨he, ⟨[], by simp, by simp⟩, fun a x k _ _ => ?_, fun a k _ q => ?_, fun a k => ?_⟩⟩
  · by_cases q : a = p
    · subst q; rw [upd_same] at e ⊢; exact e
    · rw [upd_ne q] at e ⊢; exact o.ext a x e
  · have ha : a ≠ p := hp a (List.mem_of_getElem? h1)
    have r := o.cell j a m h1 h2
    cases m with
    | lst ds => obtain ⟨r1, vs, r2, r3⟩ := r; exact ⟨by rw [upd_ne ha]; exact r1, vs, by rw [upd_ne ha]; exact r2, r3.mono he fun _ _ z => z⟩
    | dct ks ds => obtain ⟨r1, vs, r2, r3, r4⟩ := r; exact ⟨by rw [upd_ne ha]; exact r1, vs, by rw [upd_ne ha]; exact r2, r3, r4.mono he fun _ _ z => z⟩
    | ins C ns ds => obtain ⟨r1, dx, vs, r2, r3, r4⟩ := r; exact ⟨by rw [upd_ne ha]; exact r1, dx, vs, by rw [upd_ne ha]; exact r2, r3, r4.mono he fun _ _ z => z⟩
    | gone => exact True.intro
  · rw [upd_ne (hpn a (by rw [k]; exact fun z => nomatch z))]; exact k
  · rw [upd_ne (hpn a k)]; exact q
  · rw [upd_ne (hpn a k)]; exact k
/-- MRep at another heap -/
theorem MRep.mono (e : Ex I I') (t : ∀ (j : Nat) (a : Addr), θ[j]? = some a → θ'[j]? = some a) {a : Addr} (hi : I' a = none) (hh : H' a = H a) {m : MO} (r : MRep K I θ H a m) : MRep K I' θ' H' a m := by
  cases m with
  | lst ds => obtain ⟨r1, vs, r2, r3⟩ := r; exact ⟨hi, vs, by rw [hh]; exact r2, r3.mono e t⟩
  | dct ks ds => obtain ⟨r1, vs, r2, r3, r4⟩ := r; exact ⟨hi, vs, by rw [hh]; exact r2, r3, r4.mono e t⟩
  | ins C ns ds => obtain ⟨r1, dx, vs, r2, r3, r4⟩ := r; exact ⟨hi, dx, vs, by rw [hh]; exact r2, r3, r4.mono e t⟩
  | gone => exact True.intro
/-- a new cell -/
theorem Ok.newCell (o : Ok K I H θ c) {p : Addr} {u : HO} {m : MO} (h : H p = none) (r : MRep K I (θ ++ [p]) (upd H p u) p m) :
    Ok K I (upd H p u) (θ ++ [p]) (c ++ [m]) ∧ Step I H θ I (upd H p u) (θ ++ [p]) := by
  have hi := o.free h
  have hp : ∀ a ∈ θ, a ≠ p := fun a m e => o.trk a m (by rw [e]; exact h)
  have hpn : ∀ a, H a ≠ none → a ≠ p := fun a k e => k (by rw [e]; exact h)
  have ht : ∀ (j : Nat) (a : Addr), θ[j]? = some a → (θ ++ [p])[j]? = some a := fun j a k => by rw [List.getElem?_append_left (List.getElem?_eq_some_iff.mp k).1]; exact k
  refine ⟨⟨fun a x e => ?_, by simp [o.len], ?_, fun a m => ?_, fun j a m' h1 h2 => ?_⟩, ⟨Ex.refl _, ⟨[p], rfl, by simp [h]⟩, fun a x k _ _ => ?_, fun a k _ q => q, fun a k => ?_⟩⟩
  · rw [upd_ne (hpn a (by rw [o.ext a x e]; exact fun z => nomatch z))]; exact o.ext a x e
  · rw [List.nodup_append]
    exact ⟨o.nod, by simp, fun a m b m' => by simp at m'; subst m'; exact hp a m⟩
  · rcases List.mem_append.mp m with m | m
    · rw [upd_ne (hp a m)]; exact o.trk a m
    · simp at m; subst m; rw [upd_same]; exact fun z => nomatch z
  · rcases Nat.lt_or_ge j θ.length with q | q
    · rw [List.getElem?_append_left q] at h1
      rw [List.getElem?_append_left (by rw [← o.len]; exact q)] at h2
      have ha : a ≠ p := hp a (List.mem_of_getElem? h1)
      have r := o.cell j a m' h1 h2
      cases m' with
      | lst ds => exact MRep.mono (Ex.refl _) ht r.1 (upd_ne ha) r
      | dct ks ds => exact MRep.mono (Ex.refl _) ht r.1 (upd_ne ha) r
      | ins C ns ds => exact MRep.mono (Ex.refl _) ht r.1 (upd_ne ha) r
      | gone => exact True.intro
    · rw [List.getElem?_append_right q] at h1
      rw [List.getElem?_append_right (by rw [← o.len]; exact q)] at h2
      obtain ⟨z1, z2⟩ := List.getElem?_eq_some_iff.mp h1
      have z : j - θ.length = 0 := by simp at z1; omega
      have zc : j - c.length = 0 := by rw [← o.len]; exact z
      rw [z] at h1; rw [zc] at h2
      simp at h1 h2
      subst h1; subst h2
      exact r
  · rw [upd_ne (hpn a (by rw [k]; exact fun z => nomatch z))]; exact k
  · rw [upd_ne (hpn a k)]; exact k
/-- a cell is written -/
theorem Ok.write (o : Ok K I H θ c) {p : Addr} {u : HO} {m m0 : MO} {j : Nat} (hj : θ[j]? = some p) (hc : c[j]? = some m0) (h0 : m0 ≠ .gone) (r : MRep K I θ (upd H p u) p m) :
    Ok K I (upd H p u) θ (c.set j m) ∧ Step I H θ I (upd H p u) θ := by
  have hip : I p = none := by
    have q := o.cell j p m0 hj hc
    cases m0 with
    | lst ds => exact q.1
    | dct ks ds => exact q.1
    | ins C ns ds => exact q.1
    | gone => exact absurd rfl h0
  have hm : p ∈ θ := List.mem_of_getElem? hj
  refine ⟨⟨fun a x e => ?_, by simp [o.len], o.nod, fun a m' => ?_, fun i a m' h1 h2 => ?_⟩, ⟨Ex.refl _, ⟨[], by simp, by simp⟩, fun a x k n _ => ?_, fun a _ _ q => q, fun a k => ?_⟩⟩
  · have : a ≠ p := fun z => by rw [z, hip] at e; cases e
    rw [upd_ne this]; exact o.ext a x e
  · by_cases q : a = p
    · rw [q, upd_same]; exact fun z => nomatch z
    · rw [upd_ne q]; exact o.trk a m'
  · by_cases q : i = j
    · subst q
      rw [hj] at h1; cases h1
      rw [List.getElem?_set_self (by rw [← o.len]; exact (List.getElem?_eq_some_iff.mp hj).1)] at h2
      cases h2; exact r
    · rw [List.getElem?_set_ne (Ne.symm q)] at h2
      have ha : a ≠ p := fun z => by
        subst z
        exact q (nodup_ix2 o.nod h1 hj)
      have r := o.cell i a m' h1 h2
      cases m' with
      | lst ds => exact MRep.mono (Ex.refl _) (fun _ _ z => z) r.1 (upd_ne ha) r
      | dct ks ds => exact MRep.mono (Ex.refl _) (fun _ _ z => z) r.1 (upd_ne ha) r
      | ins C ns ds => exact MRep.mono (Ex.refl _) (fun _ _ z => z) r.1 (upd_ne ha) r
      | gone => exact True.intro
  · have : a ≠ p := fun z => n (by rw [z]; exact hm)
    rw [upd_ne this]; exact k
  · by_cases q : a = p
    · rw [q, upd_same]; exact fun z => nomatch z
    · rw [upd_ne q]; exact k
end
end DL
set_option Elab.async false
set_option linter.all false
set_option maxRecDepth 100000
set_option maxHeartbeats 1000000
/-! DL.J: readings over data: expressions, tests, argument lists, statements, defs. -/
namespace DL
open PySem PySem.Spec PyProof.Rows L2

abbrev Env := List (Option D)
abbrev XP := Value → List Str → List D → Cells → Prop
abbrev QE := D → Cells → Prop
abbrev QT := Bool → Cells → Prop
abbrev QA := List D → Cells → Prop
abbrev Wp := Env → Cells → QE → XP → Prop
abbrev WpT := Env → Cells → QT → XP → Prop
abbrev WpA := Env → Cells → QA → XP → Prop
structure Out where
  nx : Env → Cells → Prop
  rt : QE
  bk : Env → Cells → Prop := fun _ _ => False
  ct : Env → Cells → Prop := fun _ _ => False
abbrev WpS := Env → Cells → Out → XP → Prop

structure EnvOk (K : PySem.W.Frag) (I : Hp) (θ : List Addr) (σ : L2.St) (env : Env) : Prop where
  len : σ.length = env.length
  get : ∀ (i : Nat) (d : D), env[i]? = some (some d) → ∃ v, σ[i]? = some (some v) ∧ Rep K I θ d v

def Lift (K : PySem.W.Frag) (I H : Hp) (θ : List Addr) (Q : VK) : QE := fun d c' => ∀ v I' H' θ', Step I H θ I' H' θ' → Ok K I' H' θ' c' → Rep K I' θ' d v → Q v H'
def LiftT (K : PySem.W.Frag) (I H : Hp) (θ : List Addr) (Q : Bool → Hp → Prop) : QT := fun b c' => ∀ I' H' θ', Step I H θ I' H' θ' → Ok K I' H' θ' c' → Q b H'
def LiftA (K : PySem.W.Frag) (I H : Hp) (θ : List Addr) (Q : List V → Hp → Prop) : QA := fun ds c' => ∀ vs I' H' θ', Step I H θ I' H' θ' → Ok K I' H' θ' c' → RepL K I' θ' ds vs → Q vs H'
def LiftX (K : PySem.W.Frag) (I H : Hp) (θ : List Addr) (W : XK) : XP := fun cls ns ds c' => ∀ I' H' θ', Step I H θ I' H' θ' → Ok K I' H' θ' c' →
  (ns = [] → W cls none H') ∧ ∀ dx vs, I' dx = some (.xd (ns.zip vs)) → ns.length = vs.length → RepL K I' θ' ds vs → W cls (some dx) H'
def LiftN (K : PySem.W.Frag) (I H : Hp) (θ : List Addr) (Q : L2.St → Hp → Prop) : Env → Cells → Prop := fun env c' => ∀ σ' I' H' θ', Step I H θ I' H' θ' → Ok K I' H' θ' c' → EnvOk K I' θ' σ' env → Q σ' H'
def LiftO (K : PySem.W.Frag) (I H : Hp) (θ : List Addr) (E : Ends) : Out := ⟨LiftN K I H θ E.nx, Lift K I H θ E.rt, LiftN K I H θ E.bk, LiftN K I H θ E.ct⟩

def XLe (X X' : XP) : Prop := ∀ a b d c, X a b d c → X' a b d c
structure OLe (O O' : Out) : Prop where
  nx : ∀ e c, O.nx e c → O'.nx e c
  rt : ∀ d c, O.rt d c → O'.rt d c
  bk : ∀ e c, O.bk e c → O'.bk e c
  ct : ∀ e c, O.ct e c → O'.ct e c
theorem XLe.refl (X : XP) : XLe X X := fun _ _ _ _ h => h
theorem OLe.refl (O : Out) : OLe O O := ⟨fun _ _ h => h, fun _ _ h => h, fun _ _ h => h, fun _ _ h => h⟩
def Mono (w : Wp) : Prop := ∀ env c Q Q' X X', (∀ d c, Q d c → Q' d c) → XLe X X' → w env c Q X → w env c Q' X'
def MonoT (w : WpT) : Prop := ∀ env c Q Q' X X', (∀ d c, Q d c → Q' d c) → XLe X X' → w env c Q X → w env c Q' X'
def MonoA (w : WpA) : Prop := ∀ env c Q Q' X X', (∀ d c, Q d c → Q' d c) → XLe X X' → w env c Q X → w env c Q' X'
def MonoS (w : WpS) : Prop := ∀ env c O O' X X', OLe O O' → XLe X X' → w env c O X → w env c O' X'

section
variable {K : PySem.W.Frag} {I I1 H H1 : Hp} {θ θ1 : List Addr} {c c1 : Cells} {σ : L2.St} {env : Env}
theorem EnvOk.step (e : EnvOk K I θ σ env) (s : Step I H θ I1 H1 θ1) : EnvOk K I1 θ1 σ env := ⟨e.len, fun i d h => by
  obtain ⟨v, h1, h2⟩ := e.get i d h
  exact ⟨v, h1, s.rep h2⟩⟩
theorem EnvOk.set (e : EnvOk K I θ σ env) {d : D} {v : V} (i : Nat) (r : Rep K I θ d v) : EnvOk K I θ (σ.set i (some v)) (env.set i (some d)) := ⟨by simp [e.len], fun j d' h => by
  by_cases q : i = j
  · subst q
    by_cases hl : i < env.length
    · rw [List.getElem?_set_self hl] at h
      cases h
      exact ⟨v, by rw [List.getElem?_set_self (by rw [e.len]; exact hl)], r⟩
    · rw [List.getElem?_eq_none (by simp; omega)] at h; cases h
  · rw [List.getElem?_set_ne q] at h ⊢
    exact e.get j d' h⟩
theorem EnvOk.wipe1 (e : EnvOk K I θ σ env) (i : Nat) : EnvOk K I θ (σ.set i none) (env.set i none) := ⟨by simp [e.len], fun j d' h => by
  by_cases q : i = j
  · subst q
    by_cases hl : i < env.length
    · rw [List.getElem?_set_self hl] at h
      cases h
    · rw [List.getElem?_eq_none (by simp; omega)] at h; cases h
  · rw [List.getElem?_set_ne q] at h ⊢
    exact e.get j d' h⟩
theorem Lift.step {Q : VK} {d : D} {c' : Cells} (s : Step I H θ I1 H1 θ1) (h : Lift K I H θ Q d c') : Lift K I1 H1 θ1 Q d c' := fun v I' H' θ' s' o r => h v I' H' θ' (s.trans s') o r
theorem LiftX.step {W : XK} (s : Step I H θ I1 H1 θ1) : XLe (LiftX K I H θ W) (LiftX K I1 H1 θ1 W) := fun _ _ _ _ h I' H' θ' s' o => h I' H' θ' (s.trans s') o
theorem LiftN.step {Q : L2.St → Hp → Prop} (s : Step I H θ I1 H1 θ1) {e : Env} {c' : Cells} (h : LiftN K I H θ Q e c') : LiftN K I1 H1 θ1 Q e c' := fun v I' H' θ' s' o r => h v I' H' θ' (s.trans s') o r
theorem LiftO.step {D : Ends} (s : Step I H θ I1 H1 θ1) : OLe (LiftO K I H θ D) (LiftO K I1 H1 θ1 D) := ⟨fun _ _ h => LiftN.step s h, fun _ _ h => Lift.step s h, fun _ _ h => LiftN.step s h, fun _ _ h => LiftN.step s h⟩
/-- a value that is there -/
theorem Lift.here {Q : VK} {d : D} {v : V} (h : Lift K I H θ Q d c) (o : Ok K I H θ c) (r : Rep K I θ d v) : Q v H := h v I H θ Step.refl o r
end

/-- the reading over the heap -/
def tW (K : PySem.W.Frag) (W : WX) (w : Wp) : TE := fun σ H Q => ∃ I θ env c, EnvOk K I θ σ env ∧ Ok K I H θ c ∧ w env c (Lift K I H θ Q) (LiftX K I H θ (WE W σ))
def tWT (K : PySem.W.Frag) (W : WX) (w : WpT) : TT := fun σ H Q => ∃ I θ env c, EnvOk K I θ σ env ∧ Ok K I H θ c ∧ w env c (LiftT K I H θ Q) (LiftX K I H θ (WE W σ))
def tWA (K : PySem.W.Frag) (W : WX) (w : WpA) : TA := fun σ H Q => ∃ I θ env c, EnvOk K I θ σ env ∧ Ok K I H θ c ∧ w env c (LiftA K I H θ Q) (LiftX K I H θ (WE W σ))
/-- statements: what an exception meets does not lean on the slots -/
abbrev WC (E : XK) : WX := fun cls d _ H => E cls d H
def tWS (K : PySem.W.Frag) (E : XK) (w : WpS) : TS := fun O σ H => ∃ I θ env c, EnvOk K I θ σ env ∧ Ok K I H θ c ∧ w env c (LiftO K I H θ O) (LiftX K I H θ E)

structure JE (X : Cx) (E : XK) (e : Expr) (w : Wp) : Prop where
  pe : PE X e (tW X.K (WC E) w)
  mono : Mono w
structure JT (X : Cx) (E : XK) (e : Expr) (w : WpT) : Prop where
  pt : PT X e (tWT X.K (WC E) w)
  mono : MonoT w
structure JA (X : Cx) (E : XK) (es : List Expr) (w : WpA) : Prop where
  pa : PA X es (tWA X.K (WC E) w)
  mono : MonoA w
structure JS (X : Cx) (E : XK) (st : Stmt) (w : WpS) : Prop where
  ps : PS X st (tWS X.K E w)
  mono : MonoS w
structure JSs (X : Cx) (E : XK) (st : List Stmt) (w : WpS) : Prop where
  ps : PSs X st (tWS X.K E w)
  mono : MonoS w

theorem PE.weak {X : Cx} {e : Expr} {t t' : TE} (h : PE X e t) (q : ∀ σ H Q, t' σ H Q → t σ H Q) : PE X e t' := ⟨fun pins s σ H Q I k => h.run pins s σ H Q I (q σ H Q k)⟩
theorem PT.weak {X : Cx} {e : Expr} {t t' : TT} (h : PT X e t) (q : ∀ σ H Q, t' σ H Q → t σ H Q) : PT X e t' := ⟨fun pins s σ H Q I k => h.run pins s σ H Q I (q σ H Q k)⟩
theorem PA.weak {X : Cx} {e : List Expr} {t t' : TA} (h : PA X e t) (q : ∀ σ H Q, t' σ H Q → t σ H Q) : PA X e t' := ⟨fun p pins s σ H Q I k => h.run p pins s σ H Q I (q σ H Q k)⟩
theorem PS.weak {X : Cx} {e : Stmt} {t t' : TS} (h : PS X e t) (q : ∀ D σ H, t' D σ H → t D σ H) : PS X e t' := ⟨fun pins s σ H D I k => h.run pins s σ H D I (q D σ H k)⟩
theorem PSs.weak {X : Cx} {e : List Stmt} {t t' : TS} (h : PSs X e t) (q : ∀ D σ H, t' D σ H → t D σ H) : PSs X e t' := ⟨fun pins s σ H D I k => h.run pins s σ H D I (q D σ H k)⟩

section
variable {K : PySem.W.Frag} {E : XK} {w : Wp} {wa : WpA} {wt : WpT}
/-- the thread: w, then what follows in the state behind it -/
theorem then_ {σ : L2.St} {H : Hp} {I : Hp} {θ : List Addr} {env : Env} {c : Cells} {Q : VK} {q : QE} (m : Mono w) (eo : EnvOk K I θ σ env) (o : Ok K I H θ c)
    (h : w env c q (LiftX K I H θ E)) (k : ∀ d c1 v I1 H1 θ1, Step I H θ I1 H1 θ1 → Ok K I1 H1 θ1 c1 → EnvOk K I1 θ1 σ env → Rep K I1 θ1 d v → q d c1 → Q v H1) : tW K (WC E) w σ H Q :=
  ⟨I, θ, env, c, eo, o, m _ _ _ _ _ _ (fun d c1 hq v I1 H1 θ1 s o1 r => k d c1 v I1 H1 θ1 s o1 (eo.step s) r hq) (XLe.refl _) h⟩
theorem thenA {σ : L2.St} {H : Hp} {I : Hp} {θ : List Addr} {env : Env} {c : Cells} {Q : List V → Hp → Prop} {q : QA} (m : MonoA wa) (eo : EnvOk K I θ σ env) (o : Ok K I H θ c)
    (h : wa env c q (LiftX K I H θ E)) (k : ∀ d c1 v I1 H1 θ1, Step I H θ I1 H1 θ1 → Ok K I1 H1 θ1 c1 → EnvOk K I1 θ1 σ env → RepL K I1 θ1 d v → q d c1 → Q v H1) : tWA K (WC E) wa σ H Q :=
  ⟨I, θ, env, c, eo, o, m _ _ _ _ _ _ (fun d c1 hq v I1 H1 θ1 s o1 r => k d c1 v I1 H1 θ1 s o1 (eo.step s) r hq) (XLe.refl _) h⟩
theorem thenT {σ : L2.St} {H : Hp} {I : Hp} {θ : List Addr} {env : Env} {c : Cells} {Q : Bool → Hp → Prop} {q : QT} (m : MonoT wt) (eo : EnvOk K I θ σ env) (o : Ok K I H θ c)
    (h : wt env c q (LiftX K I H θ E)) (k : ∀ b c1 I1 H1 θ1, Step I H θ I1 H1 θ1 → Ok K I1 H1 θ1 c1 → EnvOk K I1 θ1 σ env → q b c1 → Q b H1) : tWT K (WC E) wt σ H Q :=
  ⟨I, θ, env, c, eo, o, m _ _ _ _ _ _ (fun d c1 hq I1 H1 θ1 s o1 => k d c1 I1 H1 θ1 s o1 (eo.step s) hq) (XLe.refl _) h⟩
end

/-! ### names, constants -/
section
variable {X : Cx} {E : XK}
def wVar (i : Nat) : Wp := fun env c Q _ => match env[i]? with
  | some (some d) => Q d c
  | _ => False
theorem wVar_mono (i : Nat) : Mono (wVar i) := fun env c Q Q' X X' h _ k => by
  unfold wVar at *
  split at k
  · exact h _ _ k
  · exact k.elim
theorem je_v (i : Nat) {x : Str} {pos : Pos} (h : PE X (.Name x pos) (tVar i)) : JE X E (.Name x pos) (wVar i) := ⟨PE.weak h fun σ H Q ⟨I, θ, env, c, eo, o, k⟩ => by
  unfold wVar at k
  split at k
  · rename_i d hd
    obtain ⟨v, h1, h2⟩ := eo.get _ _ hd
    exact ⟨v, h1, k.here o h2⟩
  · exact k.elim, wVar_mono i⟩
theorem je_var (i : Nat) {x : Str} {pos : Pos} (hN : X.N[i]? = some x := by rfl) (hv : Vis X.env.scope x := by first | exact Or.inl rfl | exact Or.inr (Or.inl rfl) | exact Or.inr (Or.inr rfl)) (hd : (x == ("__debug__" : Str)) = false := by decide)
    (hcd : (x == ("__classdict__" : Str)) = false := by decide) : JE X E (.Name x pos) (wVar i) := je_v i (pv i hN hv hd hcd)
def wC (d : D) : Wp := fun _ c Q _ => Q d c
theorem wC_mono (d : D) : Mono (wC d) := fun _ _ _ _ _ _ h _ k => h _ _ k
theorem je_of {e : Expr} {v : V} {d : D} (h : PE X e (tC v)) (r : ∀ I θ, Rep X.K I θ d v) : JE X E e (wC d) := ⟨PE.weak h fun σ H Q ⟨I, θ, env, c, eo, o, k⟩ => k.here o (r I θ), wC_mono d⟩
theorem je_int {i : Int} {j pos} : JE X E (.Constant (.int i) j pos) (wC (.int i)) := je_of pe_int fun _ _ => rep_int
theorem je_bl {b : Bool} {j pos} : JE X E (.Constant (.bool b) j pos) (wC (.bl b)) := je_of pe_bl fun _ _ => rep_bl
theorem je_str {b : Str} {j pos} : JE X E (.Constant (.str b) j pos) (wC (.str b)) := je_of pe_str fun _ _ => rep_str
theorem je_non {j pos} : JE X E (.Constant .none j pos) (wC .non) := je_of pe_non fun _ _ => rep_non
/-- a name of the module that holds a thing of the top -/
theorem je_glob {x : Str} {a : Addr} {pos : Pos} (hg : Gl X x) (hm : X.mg x = some (.ref a)) (hd : (x == ("__debug__" : Str)) = false := by decide) : JE X E (.Name x pos) (wC (.obj a)) :=
  je_of (pe_glob (v := .ref a) hg hm rfl hd) fun _ _ => by unfold Rep; rfl
theorem je_globI {x : Str} {n : Int} {t : Tok} {pos : Pos} (hg : Gl X x) (hm : X.mg x = some (.int n t)) (hd : (x == ("__debug__" : Str)) = false := by decide) : JE X E (.Name x pos) (wC (.int n)) :=
  je_of (pe_glob (v := .int n) hg hm ⟨t, rfl⟩ hd) fun _ _ => rep_int
theorem je_globS {x : Str} {n : Str} {t : Tok} {pos : Pos} (hg : Gl X x) (hm : X.mg x = some (.str n t)) (hd : (x == ("__debug__" : Str)) = false := by decide) : JE X E (.Name x pos) (wC (.str n)) :=
  je_of (pe_glob (v := .str n) hg hm ⟨t, rfl⟩ hd) fun _ _ => rep_str
/-- a built-in class as a value -/
theorem je_ty {x : Str} {n : String} {pos : Pos} (hg : Gl X x) (hm : X.mg x = none) (hv : bootBuiltins x = some (.type n)) (hn : x ≠ "__name__" := by decide) (hd : (x == ("__debug__" : Str)) = false := by decide) : JE X E (.Name x pos) (wC (.ty n)) :=
  je_of (pe_bltn (v := .ty n) hg hm hv rfl hn hd) fun _ _ => by unfold Rep; rfl
end

/-! ### two-place operations -/
abbrev G2 := D → D → Cells → QE → XP → Prop
def Mono2 (g : G2) : Prop := ∀ x y c Q Q' X X', (∀ d c, Q d c → Q' d c) → XLe X X' → g x y c Q X → g x y c Q' X'
structure Snd2 (K : PySem.W.Frag) (r : R2) (g : G2) : Prop where
  run : ∀ I H θ c dx dy x y Q Xp, Ok K I H θ c → Rep K I θ dx x → Rep K I θ dy y → g dx dy c (Lift K I H θ Q) Xp → r x y H Q
  mono : Mono2 g
def w2 (g : G2) (wa wb : Wp) : Wp := fun env c Q X => wa env c (fun x c1 => wb env c1 (fun y c2 => g x y c2 Q X) X) X
section
variable {X : Cx} {E : XK} {a b e : Expr} {wa wb w : Wp} {pos : Pos} {r : R2} {g : G2}
theorem w2_mono (hg : Mono2 g) (ha : Mono wa) (hb : Mono wb) : Mono (w2 g wa wb) := fun env c Q Q' X X' h hx k =>
  ha _ _ _ _ _ _ (fun x c1 k1 => hb _ _ _ _ _ _ (fun y c2 k2 => hg _ _ _ _ _ _ _ h hx k2) hx k1) hx k
theorem t2_of {K : PySem.W.Frag} (s : Snd2 K r g) (ma : Mono wa) (mb : Mono wb) {σ : L2.St} {H : Hp} {Q : VK} (k : tW K (WC E) (w2 g wa wb) σ H Q) : tOp r (tW K (WC E) wa) (tW K (WC E) wb) σ H Q := by
  obtain ⟨I, θ, env, c, eo, o, k⟩ := k
  refine then_ ma eo o k fun dx c1 x I1 H1 θ1 s1 o1 eo1 r1 k1 => ?_
  refine then_ mb eo1 o1 (mb _ _ _ _ _ _ (fun _ _ z => z) (LiftX.step s1) k1) fun dy c2 y I2 H2 θ2 s2 o2 eo2 r2 k2 => ?_
  exact s.run I2 H2 θ2 c2 dx dy x y Q _ o2 (s2.rep r1) r2 (s.mono _ _ _ _ _ _ _ (fun d c' z => Lift.step (s1.trans s2) z) (XLe.refl _) k2)
theorem je_bin {op : Operator} (ho : OpR X (binaryOp op) r) (s : Snd2 X.K r g) (ha : JE X E a wa) (hb : JE X E b wb) : JE X E (.BinOp a op b pos) (w2 g wa wb) :=
  ⟨PE.weak (pe_op ho ha.pe hb.pe) fun σ H Q k => t2_of s ha.mono hb.mono k, w2_mono s.mono ha.mono hb.mono⟩
theorem je_cmp {op : CmpOp} (ho : OpR X (compareOp op) r) (s : Snd2 X.K r g) (ha : JE X E a wa) (hb : JE X E b wb) (hm : behindInMarks op b = false) : JE X E (.Compare a [op] [b] pos) (w2 g wa wb) :=
  ⟨PE.weak (pe_cmpR ho ha.pe hb.pe hm) fun σ H Q k => t2_of s ha.mono hb.mono k, w2_mono s.mono ha.mono hb.mono⟩
/-- a[b] -/
theorem je_ix (ho : IxR X r) (s : Snd2 X.K r g) (ha : JE X E a wa) (hb : JE X E b wb) (hp : PlainIx b) : JE X E (.Subscript a b pos) (w2 g wa wb) :=
  ⟨PE.weak (pe_ix ho ha.pe hb.pe hp) fun σ H Q k => t2_of s ha.mono hb.mono k, w2_mono s.mono ha.mono hb.mono⟩
theorem Snd2.or {K : PySem.W.Frag} {r' : R2} {g' : G2} (s : Snd2 K r g) (s' : Snd2 K r' g') : Snd2 K (fun x y H Q => r x y H Q ∨ r' x y H Q) (fun x y c Q X => g x y c Q X ∨ g' x y c Q X) :=
  ⟨fun I H θ c dx dy x y Q Xp o r1 r2 k => k.elim (fun k => .inl (s.run _ _ _ _ _ _ _ _ _ _ o r1 r2 k)) (fun k => .inr (s'.run _ _ _ _ _ _ _ _ _ _ o r1 r2 k)),
   fun x y c Q Q' X X' h hx k => k.elim (fun k => .inl (s.mono _ _ _ _ _ _ _ h hx k)) (fun k => .inr (s'.mono _ _ _ _ _ _ _ h hx k))⟩
end

/-! ### tests -/
section
variable {X : Cx} {E : XK} {a b e : Expr} {wa wb w : Wp} {ta tb t : WpT} {rest : List Expr} {pos : Pos} {r : R2} {g : G2}
/-- a value that is a bool, as a test -/
def wB (w : Wp) : WpT := fun env c Q X => w env c (fun d c' => match d with
  | .bl b => Q b c'
  | _ => False) X
theorem wB_mono (m : Mono w) : MonoT (wB w) := fun env c Q Q' X X' h hx k => m _ _ _ _ _ _ (fun d c' z => by
  cases d <;> first | exact h _ _ z | exact z.elim) hx k
theorem tB_of {K : PySem.W.Frag} (m : Mono w) {σ : L2.St} {H : Hp} {Q : Bool → Hp → Prop} (k : tWT K (WC E) (wB w) σ H Q) : tW K (WC E) w σ H fun x H' => ∃ b, x = .bl b ∧ Q b H' := by
  obtain ⟨I, θ, env, c, eo, o, k⟩ := k
  refine then_ m eo o k fun d c1 v I1 H1 θ1 s1 o1 eo1 r1 k1 => ?_
  cases d <;> first | exact k1.elim | skip
  rename_i b
  unfold Rep at r1
  exact ⟨b, r1, k1 I1 H1 θ1 s1 o1⟩
theorem jt_cmp {op : CmpOp} (ho : OpR X (compareOp op) r) (s : Snd2 X.K r g) (ha : JE X E a wa) (hb : JE X E b wb) (hm : behindInMarks op b = false) : JT X E (.Compare a [op] [b] pos) (wB (w2 g wa wb)) :=
  ⟨PT.weak (pt_cmpR ho ha.pe hb.pe hm) fun σ H Q k => t2_of s ha.mono hb.mono (tB_of (w2_mono s.mono ha.mono hb.mono) k), wB_mono (w2_mono s.mono ha.mono hb.mono)⟩
/-- an expression that gives a bool, as a test -/
theorem jt_val (h : JE X E e w) (he : ∀ whole, isTrue e X.env whole = (do let v ← whole; standAt e.pos; holding [v] (truthy v)) := by intro _; rfl) : JT X E e (wB w) :=
  ⟨PT.weak (pt_val h.pe he) fun σ H Q k => tB_of h.mono k, wB_mono h.mono⟩
def wAnd (ta tb : WpT) : WpT := fun env c Q X => ta env c (fun b c1 => if b = true then tb env c1 Q X else Q false c1) X
def wOr (ta tb : WpT) : WpT := fun env c Q X => ta env c (fun b c1 => if b = true then Q true c1 else tb env c1 Q X) X
def wNot (ta : WpT) : WpT := fun env c Q X => ta env c (fun b c1 => Q (!b) c1) X
theorem LiftT.step {K : PySem.W.Frag} {I I1 H H1 : Hp} {θ θ1 : List Addr} {Q : Bool → Hp → Prop} {d : Bool} {c' : Cells} (s : Step I H θ I1 H1 θ1) (h : LiftT K I H θ Q d c') : LiftT K I1 H1 θ1 Q d c' := fun I' H' θ' s' o => h I' H' θ' (s.trans s') o
theorem jt_not (h : JT X E a ta) : JT X E (.UnaryOp .Not a pos) (wNot ta) :=
  ⟨PT.weak (pt_not h.pt) fun σ H Q ⟨I, θ, env, c, eo, o, k⟩ => thenT h.mono eo o k fun b c1 I1 H1 θ1 s1 o1 eo1 k1 => k1 I1 H1 θ1 s1 o1,
   fun env c Q Q' X X' hq hx k => h.mono _ _ _ _ _ _ (fun b c1 z => hq _ _ z) hx k⟩
structure JW (X : Cx) (E : XK) (e : Expr) (w : WpT) : Prop where
  pw : PW X e (tWT X.K (WC E) w)
  mono : MonoT w
theorem PW.weak {X : Cx} {e : Expr} {t t' : TT} (h : PW X e t) (q : ∀ σ H Q, t' σ H Q → t σ H Q) : PW X e t' := ⟨fun w pins s σ H Q I k => h.run w pins s σ H Q I (q σ H Q k)⟩
theorem jw_and1 (h : JT X E a ta) : JW X E (.BoolOp .And [a] pos) ta := ⟨pw_and1 h.pt, h.mono⟩
theorem jw_or1 (h : JT X E a ta) : JW X E (.BoolOp .Or [a] pos) ta := ⟨pw_or1 h.pt, h.mono⟩
theorem wAnd_mono (ha : MonoT ta) (hb : MonoT tb) : MonoT (wAnd ta tb) := fun env c Q Q' X X' hq hx k => ha _ _ _ _ _ _ (fun d c1 z => by
    split at z
    · rw [if_pos (by assumption)]; exact hb _ _ _ _ _ _ hq hx z
    · rw [if_neg (by assumption)]; exact hq _ _ z) hx k
theorem wOr_mono (ha : MonoT ta) (hb : MonoT tb) : MonoT (wOr ta tb) := fun env c Q Q' X X' hq hx k => ha _ _ _ _ _ _ (fun d c1 z => by
    split at z
    · rw [if_pos (by assumption)]; exact hq _ _ z
    · rw [if_neg (by assumption)]; exact hb _ _ _ _ _ _ hq hx z) hx k
theorem jw_and (ha : JT X E a ta) (hb : JW X E (.BoolOp .And (b :: rest) pos) tb) : JW X E (.BoolOp .And (a :: b :: rest) pos) (wAnd ta tb) :=
  ⟨PW.weak (pw_and ha.pt hb.pw) fun σ H Q ⟨I, θ, env, c, eo, o, k⟩ => thenT ha.mono eo o k fun d c1 I1 H1 θ1 s1 o1 eo1 k1 => by
    split at k1
    · rw [if_pos (by assumption)]
      exact ⟨I1, θ1, env, c1, eo1, o1, hb.mono _ _ _ _ _ _ (fun _ _ z => LiftT.step s1 z) (LiftX.step s1) k1⟩
    · rw [if_neg (by assumption)]
      exact k1 I1 H1 θ1 s1 o1, wAnd_mono ha.mono hb.mono⟩
theorem jw_or (ha : JT X E a ta) (hb : JW X E (.BoolOp .Or (b :: rest) pos) tb) : JW X E (.BoolOp .Or (a :: b :: rest) pos) (wOr ta tb) :=
  ⟨PW.weak (pw_or ha.pt hb.pw) fun σ H Q ⟨I, θ, env, c, eo, o, k⟩ => thenT ha.mono eo o k fun d c1 I1 H1 θ1 s1 o1 eo1 k1 => by
    split at k1
    · rw [if_pos (by assumption)]
      exact k1 I1 H1 θ1 s1 o1
    · rw [if_neg (by assumption)]
      exact ⟨I1, θ1, env, c1, eo1, o1, hb.mono _ _ _ _ _ _ (fun _ _ z => LiftT.step s1 z) (LiftX.step s1) k1⟩, wOr_mono ha.mono hb.mono⟩
theorem jw_t (h : JW X E e t) : JT X E e t := ⟨PW.pt h.pw, h.mono⟩
/-- a if t else b -/
def wIf (t : WpT) (wa wb : Wp) : Wp := fun env c Q X => t env c (fun b c1 => if b = true then wa env c1 Q X else wb env c1 Q X) X
theorem je_if {t' : Expr} (ht : JT X E t' t) (ha : JE X E a wa) (hb : JE X E b wb) : JE X E (.IfExp t' a b pos) (wIf t wa wb) :=
  ⟨PE.weak (pe_ifExp ht.pt ha.pe hb.pe) fun σ H Q ⟨I, θ, env, c, eo, o, k⟩ => thenT ht.mono eo o k fun d c1 I1 H1 θ1 s1 o1 eo1 k1 => by
    split at k1
    · rw [if_pos (by assumption)]
      exact ⟨I1, θ1, env, c1, eo1, o1, ha.mono _ _ _ _ _ _ (fun _ _ z => Lift.step s1 z) (LiftX.step s1) k1⟩
    · rw [if_neg (by assumption)]
      exact ⟨I1, θ1, env, c1, eo1, o1, hb.mono _ _ _ _ _ _ (fun _ _ z => Lift.step s1 z) (LiftX.step s1) k1⟩,
   fun env c Q Q' X X' hq hx k => ht.mono _ _ _ _ _ _ (fun d c1 z => by
    split at z
    · rw [if_pos (by assumption)]; exact ha.mono _ _ _ _ _ _ hq hx z
    · rw [if_neg (by assumption)]; exact hb.mono _ _ _ _ _ _ hq hx z) hx k⟩
end

/-! ### argument lists -/
section
variable {X : Cx} {E : XK} {e : Expr} {es : List Expr} {w : Wp} {wa : WpA}
def aNil : WpA := fun _ c Q _ => Q [] c
def aCons (w : Wp) (wa : WpA) : WpA := fun env c Q X => w env c (fun d c1 => wa env c1 (fun ds c2 => Q (d :: ds) c2) X) X
theorem aNil_mono : MonoA aNil := fun _ _ _ _ _ _ h _ k => h _ _ k
theorem aCons_mono (m : Mono w) (ma : MonoA wa) : MonoA (aCons w wa) := fun env c Q Q' X X' h hx k => m _ _ _ _ _ _ (fun d c1 z => ma _ _ _ _ _ _ (fun ds c2 z => h _ _ z) hx z) hx k
theorem ja_nil : JA X E [] aNil := ⟨PA.weak pa_nil fun σ H Q ⟨I, θ, env, c, eo, o, k⟩ => k [] I H θ Step.refl o repL_nil, aNil_mono⟩
theorem tcons_of {K : PySem.W.Frag} (m : Mono w) (ma : MonoA wa) {σ : L2.St} {H : Hp} {Q : List V → Hp → Prop} (k : tWA K (WC E) (aCons w wa) σ H Q) : tCons (tW K (WC E) w) (tWA K (WC E) wa) σ H Q := by
  obtain ⟨I, θ, env, c, eo, o, k⟩ := k
  refine then_ m eo o k fun d c1 x I1 H1 θ1 s1 o1 eo1 r1 k1 => ?_
  refine thenA ma eo1 o1 (ma _ _ _ _ _ _ (fun _ _ z => z) (LiftX.step s1) k1) fun ds c2 y I2 H2 θ2 s2 o2 eo2 r2 k2 => ?_
  exact k2 (x :: y) I2 H2 θ2 (s1.trans s2) o2 (repL_cons (s2.rep r1) r2)
theorem ja_cons (h : JE X E e w) (hr : JA X E es wa) (hs : starEach (e :: es) X.env = (false, eval e X.env) :: starEach es X.env := by rfl) : JA X E (e :: es) (aCons w wa) :=
  ⟨PA.weak (pa_cons h.pe hr.pa hs) fun σ H Q k => tcons_of h.mono hr.mono k, aCons_mono h.mono hr.mono⟩
end

/-! ### calls of known values -/
abbrev GA := List D → Cells → QE → XP → Prop
def MonoG (g : GA) : Prop := ∀ x c Q Q' X X', (∀ d c, Q d c → Q' d c) → XLe X X' → g x c Q X → g x c Q' X'
structure SndA (K : PySem.W.Frag) (r : List V → Hp → VK → Prop) (g : GA) : Prop where
  run : ∀ I H θ c ds vs Q Xp, Ok K I H θ c → RepL K I θ ds vs → g ds c (Lift K I H θ Q) Xp → r vs H Q
  mono : MonoG g
def wCall (g : GA) (wa : WpA) : Wp := fun env c Q X => wa env c (fun ds c1 => g ds c1 Q X) X
section
variable {X : Cx} {E : XK} {e : Expr} {es : List Expr} {w : Wp} {wa : WpA} {g : GA} {r : List V → Hp → VK → Prop} {x : Str} {p pos : Pos} {id : String}
theorem wCall_mono (hg : MonoG g) (m : MonoA wa) : Mono (wCall g wa) := fun env c Q Q' X X' h hx k => m _ _ _ _ _ _ (fun ds c1 z => hg _ _ _ _ _ _ h hx z) hx k
theorem tCB_of {K : PySem.W.Frag} (s : SndA K r g) (m : MonoA wa) {σ : L2.St} {H : Hp} {Q : VK} (k : tW K (WC E) (wCall g wa) σ H Q) : tCB r (tWA K (WC E) wa) σ H Q := by
  obtain ⟨I, θ, env, c, eo, o, k⟩ := k
  refine thenA m eo o k fun ds c1 vs I1 H1 θ1 s1 o1 eo1 r1 k1 => ?_
  exact s.run I1 H1 θ1 c1 ds vs Q _ o1 r1 (s.mono _ _ _ _ _ _ (fun d c' z => Lift.step s1 z) (XLe.refl _) k1)
/-- a built-in function by its name -/
theorem je_callB (hr : CallR X (.builtin id) r) (s : SndA X.K r g) (hg : Gl X x) (hm : X.mg x = none) (hv : bootBuiltins x = some (.builtin id)) (ha : JA X E (e :: es) wa)
    (hn : x ≠ "__name__" := by decide) (hd : (x == ("__debug__" : Str)) = false := by decide) (he : starEach (e :: es) X.env = (false, eval e X.env) :: starEach es X.env := by rfl) (hpl : (backTo pos (starEach es X.env)).any (·.1) = false := by rfl) :
    JE X E (.Call (.Name x p) (e :: es) [] pos) (wCall g wa) := ⟨PE.weak (pe_callB hr hg hm hv ha.pa hn hd he hpl) fun σ H Q k => tCB_of s ha.mono k, wCall_mono s.mono ha.mono⟩
/-- a built-in class by its name -/
theorem je_callTy (hr : CallR X (.type id) r) (s : SndA X.K r g) (hg : Gl X x) (hm : X.mg x = none) (hv : bootBuiltins x = some (.type id)) (ha : JA X E (e :: es) wa)
    (hn : x ≠ "__name__" := by decide) (hd : (x == ("__debug__" : Str)) = false := by decide) (he : starEach (e :: es) X.env = (false, eval e X.env) :: starEach es X.env := by rfl) (hpl : (backTo pos (starEach es X.env)).any (·.1) = false := by rfl) :
    JE X E (.Call (.Name x p) (e :: es) [] pos) (wCall g wa) := ⟨PE.weak (pe_callTy hr hg hm hv ha.pa hn hd he hpl) fun σ H Q k => tCB_of s ha.mono k, wCall_mono s.mono ha.mono⟩
end

/-! ### defs -/
/-- the promise of a def that gives, of data, what wf says -/
def spD (K : PySem.W.Frag) (n : Nat) (wf : GA) : Sp := fun vs H Q E => ∃ I θ ds c, ds.length = n ∧ RepL K I θ ds vs ∧ Ok K I H θ c ∧ wf ds c (Lift K I H θ Q) (LiftX K I H θ E)
section
variable {X : Cx} {E : XK} {e : Expr} {es : List Expr} {w : Wp} {wa : WpA} {wf : GA} {x : Str} {p pos : Pos} {k : Nat} {f : Addr} {fd : FuncData} {ps : List Str}
/-- the arguments, then the def's own word -/
def wFn (n : Nat) (wf : GA) (wa : WpA) : Wp := fun env c Q X => wa env c (fun ds c1 => ds.length = n ∧ wf ds c1 Q X) X
theorem wFn_mono {n : Nat} (hg : MonoG wf) (m : MonoA wa) : Mono (wFn n wf wa) := fun env c Q Q' X X' h hx k => m _ _ _ _ _ _ (fun ds c1 z => ⟨z.1, hg _ _ _ _ _ _ h hx z.2⟩) hx k
theorem spD_of {K : PySem.W.Frag} {n : Nat} (hg : MonoG wf) (m : MonoA wa) {σ : L2.St} {H : Hp} {Q : VK} (h : tW K (WC E) (wFn n wf wa) σ H Q) : tWA K (WC E) wa σ H fun vs H1 => spD K n wf vs H1 Q E := by
  obtain ⟨I, θ, env, c, eo, o, h⟩ := h
  refine thenA m eo o h fun ds c1 vs I1 H1 θ1 s1 o1 eo1 r1 k1 => ?_
  exact ⟨I1, θ1, ds, c1, k1.1, r1, o1, hg _ _ _ _ _ _ (fun d c' z => Lift.step s1 z) (LiftX.step s1) k1.2⟩
theorem je_call (F : FnOk X.prog X.w X.K X.mg X.base (L2.CX X.prog X.w) k f fd ps (spD X.K ps.length wf)) (hg : MonoG wf) (hr : Room k X.A) (hgl : Gl X x) (hm : X.mg x = some (.ref f)) (hk : PySem.W.keepIn X.K (.ref f) = true) (hb : Binds X.K fd ps []) (tk : Takes X (WC E))
    (ha : JA X E (e :: es) wa) (hdb : (x == ("__debug__" : Str)) = false := by decide) (he : starEach (e :: es) X.env = (false, eval e X.env) :: starEach es X.env := by rfl) (hpl : (backTo pos (starEach es X.env)).any (·.1) = false := by rfl) :
    JE X E (.Call (.Name x p) (e :: es) [] pos) (wFn ps.length wf wa) :=
  ⟨PE.weak (pe_callS (E := WE (WC E)) F hr hgl hm hk hb (fun σ => passAt tk σ) ha.pa hdb he hpl) fun σ H Q h => spD_of hg ha.mono h, wFn_mono hg ha.mono⟩
end
/-! what may lie beyond the cells at the entry -/
mutual
def D.low (n : Nat) : D → Prop
  | .tup ds => lowL n ds
  | .lst ds => lowL n ds
  | .rol ds => lowL n ds
  | .dct _ ds => lowL n ds
  | .ins _ _ ds => lowL n ds
  | .exc _ _ ds => lowL n ds
  | .cell j => j < n
  | _ => True
def lowL (n : Nat) : List D → Prop
  | [] => True
  | d :: ds => d.low n ∧ lowL n ds
end
def MO.low (n : Nat) : MO → Prop
  | .lst ds => lowL n ds
  | .dct _ ds => lowL n ds
  | .ins _ _ ds => lowL n ds
  | .gone => True
section
variable {K : PySem.W.Frag} {I H : Hp} {θ θ' : List Addr} {c : Cells}
mutual
theorem Rep.low : ∀ {d : D} {v : V}, Rep K I θ d v → d.low θ.length
  | .non, v, h => by unfold D.low; trivial
  | .bl b, v, h => by unfold D.low; trivial
  | .int i, v, h => by unfold D.low; trivial
  | .str s, v, h => by unfold D.low; trivial
  | .tup ds, v, h => by unfold Rep at h; unfold D.low; obtain ⟨a, vs, _, _, r⟩ := h; exact RepL.low r
  | .lst ds, v, h => by unfold Rep at h; unfold D.low; obtain ⟨a, vs, _, _, r⟩ := h; exact RepL.low r
  | .rol ds, v, h => by unfold Rep at h; unfold D.low; obtain ⟨a, vs, _, _, r⟩ := h; exact RepL.low r
  | .dct ks ds, v, h => by unfold Rep at h; unfold D.low; obtain ⟨a, vs, _, _, _, r⟩ := h; exact RepL.low r
  | .ins C ns ds, v, h => by unfold Rep at h; unfold D.low; obtain ⟨a, dx, vs, _, _, _, r⟩ := h; exact RepL.low r
  | .exc C ns ds, v, h => by unfold Rep at h; unfold D.low; obtain ⟨a, dx, vs, _, _, _, _, r⟩ := h; exact RepL.low r
  | .exc0 C, v, h => by unfold D.low; trivial
  | .cell j, v, h => by unfold Rep at h; unfold D.low; obtain ⟨a, e, _⟩ := h; exact (List.getElem?_eq_some_iff.mp e).1
  | .obj a, v, h => by unfold D.low; trivial
  | .ty n, v, h => by unfold D.low; trivial
theorem RepL.low : ∀ {ds : List D} {vs : List V}, RepL K I θ ds vs → lowL θ.length ds
  | [], vs, h => by unfold lowL; trivial
  | d :: ds, vs, h => by unfold RepL at h; unfold lowL; obtain ⟨v, vs', _, r1, r2⟩ := h; exact ⟨Rep.low r1, RepL.low r2⟩
end
mutual
theorem Rep.cut {n : Nat} : ∀ {d : D} {v : V}, Rep K I θ d v → d.low n → Rep K I (θ.take n) d v
  | .non, v, h, b => by unfold Rep at *; exact h
  | .bl _, v, h, b => by unfold Rep at *; exact h
  | .int _, v, h, b => by unfold Rep at *; exact h
  | .str _, v, h, b => by unfold Rep at *; exact h
  | .tup ds, v, h, b => by unfold Rep at *; unfold D.low at b; obtain ⟨a, vs, e1, e2, r⟩ := h; exact ⟨a, vs, e1, e2, RepL.cut r b⟩
  | .lst ds, v, h, b => by unfold Rep at *; unfold D.low at b; obtain ⟨a, vs, e1, e2, r⟩ := h; exact ⟨a, vs, e1, e2, RepL.cut r b⟩
  | .rol ds, v, h, b => by unfold Rep at *; unfold D.low at b; obtain ⟨a, vs, e1, e2, r⟩ := h; exact ⟨a, vs, e1, e2, RepL.cut r b⟩
  | .dct ks ds, v, h, b => by unfold Rep at *; unfold D.low at b; obtain ⟨a, vs, e1, e2, e3, r⟩ := h; exact ⟨a, vs, e1, e2, e3, RepL.cut r b⟩
  | .ins C ns ds, v, h, b => by unfold Rep at *; unfold D.low at b; obtain ⟨a, dx, vs, e1, e2, e3, r⟩ := h; exact ⟨a, dx, vs, e1, e2, e3, RepL.cut r b⟩
  | .exc C ns ds, v, h, b => by unfold Rep at *; unfold D.low at b; obtain ⟨a, dx, vs, e1, e2, e3, e4, r⟩ := h; exact ⟨a, dx, vs, e1, e2, e3, e4, RepL.cut r b⟩
  | .exc0 C, v, h, b => by unfold Rep at *; exact h
  | .cell j, v, h, b => by unfold Rep at *; unfold D.low at b; obtain ⟨a, e1, e2⟩ := h; exact ⟨a, by rw [List.getElem?_take_of_lt b]; exact e1, e2⟩
  | .obj a, v, h, b => by unfold Rep at *; exact h
  | .ty _, v, h, b => by unfold Rep at *; exact h
theorem RepL.cut {n : Nat} : ∀ {ds : List D} {vs : List V}, RepL K I θ ds vs → lowL n ds → RepL K I (θ.take n) ds vs
  | [], vs, h, b => by unfold RepL at *; exact h
  | d :: ds, vs, h, b => by unfold RepL at *; unfold lowL at b; obtain ⟨v, vs', e1, r1, r2⟩ := h; exact ⟨v, vs', e1, Rep.cut r1 b.1, RepL.cut r2 b.2⟩
end
theorem lowL_mem {n : Nat} : ∀ {ds : List D}, (∀ d ∈ ds, d.low n) → lowL n ds
  | [], _ => by unfold lowL; trivial
  | d :: ds, h => by unfold lowL; exact ⟨h d (by simp), lowL_mem fun x m => h x (by simp [m])⟩
theorem lowL_map {α : Type} {n : Nat} {f : α → D} {l : List α} (h : ∀ x ∈ l, (f x).low n) : lowL n (l.map f) := lowL_mem fun d m => by
  obtain ⟨x, hx, rfl⟩ := List.mem_map.mp m
  exact h x hx
theorem MRep.low {a : Addr} {m : MO} (r : MRep K I θ H a m) : m.low θ.length := by
  cases m with
  | lst ds => obtain ⟨_, vs, _, r⟩ := r; exact r.low
  | dct ks ds => obtain ⟨_, vs, _, _, r⟩ := r; exact r.low
  | ins C ns ds => obtain ⟨_, dx, vs, _, _, r⟩ := r; exact r.low
  | gone => exact True.intro
theorem MRep.cut {a : Addr} {n : Nat} {m : MO} (r : MRep K I θ H a m) (b : m.low n) : MRep K I (θ.take n) H a m := by
  cases m with
  | lst ds => obtain ⟨r0, vs, r1, r⟩ := r; exact ⟨r0, vs, r1, r.cut b⟩
  | dct ks ds => obtain ⟨r0, vs, r1, r2, r⟩ := r; exact ⟨r0, vs, r1, r2, r.cut b⟩
  | ins C ns ds => obtain ⟨r0, dx, vs, r1, r2, r⟩ := r; exact ⟨r0, dx, vs, r1, r2, r.cut b⟩
  | gone => exact True.intro
theorem Ok.low (o : Ok K I H θ c) : ∀ m ∈ c, m.low c.length := fun m hm => by
  obtain ⟨j, hj, e⟩ := List.mem_iff_getElem.mp hm
  have h2 : c[j]? = some m := List.getElem?_eq_some_iff.mpr ⟨hj, e⟩
  obtain ⟨a, ha⟩ : ∃ a, θ[j]? = some a := ⟨_, List.getElem?_eq_getElem (by rw [o.len]; exact hj)⟩
  rw [← o.len]
  exact (o.cell j a m ha h2).low
/-- the cells beyond n are let go -/
theorem Ok.cut {n : Nat} (o : Ok K I H θ c) (b : ∀ m ∈ c.take n, m.low n) : Ok K I H (θ.take n) (c.take n) :=
  ⟨o.ext, by rw [List.length_take, List.length_take, o.len], o.nod.sublist (List.take_sublist _ _), fun a m => o.trk a (List.mem_of_mem_take m), fun j a m h1 h2 => by
    have hj : j < n := by
      have := (List.getElem?_eq_some_iff.mp h2).1
      simp at this; omega
    have h2' := h2
    rw [List.getElem?_take_of_lt hj] at h1 h2
    exact (o.cell j a m h1 h2).cut (b m (List.mem_of_getElem? h2'))⟩
theorem Step.cut {I' H' : Hp} (s : Step I H θ I' H' θ') : Step I H θ I' H' (θ'.take θ.length) := by
  obtain ⟨t, e, ht⟩ := s.th
  exact ⟨s.ext, ⟨[], by rw [e]; simp, by simp⟩, s.keep, s.keepI, s.there⟩
end
/-- what is wanted of a def's end: cells beyond those at the entry may be let go; a list among them may be handed back as one that changes no more -/
structure QOk (c : Cells) (Q : QE) : Prop where
  drop : ∀ d c', c.length ≤ c'.length → d.low c.length → (∀ m ∈ c'.take c.length, m.low c.length) → Q d (c'.take c.length) → Q d c'
  drop0 : ∀ d g, d.low c.length → Q d c → Q d (c ++ g)
  frz : ∀ j ds c', c.length ≤ j → c'[j]? = some (.lst ds) → lowL c.length ds → (∀ m ∈ c'.take c.length, m.low c.length) → Q (.lst ds) (c'.take c.length) → Q (.cell j) c'
  frz0 : ∀ g ds, lowL c.length ds → Q (.lst ds) c → ∀ j, (c ++ g)[j]? = some (.lst ds) → c.length ≤ j → Q (.cell j) (c ++ g)
structure XOk (c : Cells) (X : XP) : Prop where
  drop : ∀ k ns ds c', c.length ≤ c'.length → lowL c.length ds → (∀ m ∈ c'.take c.length, m.low c.length) → X k ns ds (c'.take c.length) → X k ns ds c'
  drop0 : ∀ k ns ds g, lowL c.length ds → X k ns ds c → X k ns ds (c ++ g)
section
variable {K : PySem.W.Frag} {I H : Hp} {θ : List Addr} {c : Cells} {Q : VK} {E : XK}
theorem Ok.freeze {j : Nat} {ds : List D} {a : Addr} (o : Ok K I H θ c) (hj : θ[j]? = some a) (hc : c[j]? = some (.lst ds)) :
    ∃ vs, Ok K (upd I a (.lst vs)) H θ (c.set j .gone) ∧ Ex I (upd I a (.lst vs)) ∧ RepL K I θ ds vs ∧ I a = none ∧ H a = some (.lst vs) := by
  obtain ⟨hi, vs, hh, r⟩ := o.cell j a _ hj hc
  have he : Ex I (upd I a (.lst vs)) := Ex.new hi
  refine ⟨vs, ⟨fun b u e => ?_, by simp [o.len], o.nod, o.trk, fun i b m h1 h2 => ?_⟩, he, r, hi, hh⟩
  · by_cases q : b = a
    · subst q; rw [upd_same] at e; rw [hh]; exact e
    · rw [upd_ne q] at e; exact o.ext b u e
  · by_cases q : i = j
    · subst q
      rw [List.getElem?_set_self (by rw [← o.len]; exact (List.getElem?_eq_some_iff.mp hj).1)] at h2
      cases h2; exact True.intro
    · rw [List.getElem?_set_ne (Ne.symm q)] at h2
      have hb : b ≠ a := fun z => by subst z; exact q (nodup_ix2 o.nod h1 hj)
      have r := o.cell i b m h1 h2
      cases m with
      | lst es => exact MRep.mono he (fun _ _ z => z) (by rw [upd_ne hb]; exact r.1) rfl r
      | dct ks es => exact MRep.mono he (fun _ _ z => z) (by rw [upd_ne hb]; exact r.1) rfl r
      | ins C ns es => exact MRep.mono he (fun _ _ z => z) (by rw [upd_ne hb]; exact r.1) rfl r
      | gone => exact True.intro
theorem QOk.lift (o : Ok K I H θ c) : QOk c (Lift K I H θ Q) := by
  have key : ∀ d c', c.length ≤ c'.length → d.low c.length → (∀ m ∈ c'.take c.length, m.low c.length) → Lift K I H θ Q d (c'.take c.length) → Lift K I H θ Q d c' := fun d c' _ b bs k v I' H' θ' s o' r => by
    have o2 := o'.cut (n := c.length) bs
    have s2 := s.cut
    rw [o.len] at s2
    exact k v I' H' _ s2 o2 (r.cut b)
  have keyF : ∀ j ds c', c.length ≤ j → c'[j]? = some (.lst ds) → lowL c.length ds → (∀ m ∈ c'.take c.length, m.low c.length) → Lift K I H θ Q (.lst ds) (c'.take c.length) → Lift K I H θ Q (.cell j) c' := fun j ds c' hj hc b bs k v I' H' θ' s o' r => by
    unfold Rep at r
    obtain ⟨a, ha, rfl⟩ := r
    obtain ⟨vs, o2, he, rl, hi, hh⟩ := o'.freeze ha hc
    have hcut : (c'.set j .gone).take c.length = c'.take c.length := by
      rw [List.take_set_of_le hj]
    have o3 := o2.cut (n := c.length) (by rw [hcut]; exact bs)
    rw [hcut] at o3
    have hna : H a = none := by
      obtain ⟨t, e, ht⟩ := s.th
      rw [e, List.getElem?_append_right (by rw [o.len]; exact hj)] at ha
      exact ht a (List.mem_of_getElem? ha)
    have s2 : Step I H θ (upd I' a (.lst vs)) H' (θ'.take c.length) := by
      have s1 := s.cut
      rw [o.len] at s1
      exact ⟨s1.ext.trans he, s1.th, s1.keep, fun x h n q => by
        by_cases z : x = a
        · exact absurd hna (by rw [← z]; exact h)
        · rw [upd_ne z]; exact s1.keepI x h n q, s1.there⟩
    refine k (.ref a) _ H' _ s2 o3 (rep_lst upd_same ?_)
    exact (rl.cut b).mono he fun _ _ z => z
  refine ⟨key, fun d g b k => ?_, keyF, fun g ds b k j hj hl => ?_⟩
  · exact key d (c ++ g) (by simp) b (by simpa using o.low) (by simpa using k)
  · exact keyF j ds (c ++ g) hl hj b (by simpa using o.low) (by simpa using k)
theorem XOk.lift (o : Ok K I H θ c) : XOk c (LiftX K I H θ E) := by
  have key : ∀ k ns ds c', c.length ≤ c'.length → lowL c.length ds → (∀ m ∈ c'.take c.length, m.low c.length) → LiftX K I H θ E k ns ds (c'.take c.length) → LiftX K I H θ E k ns ds c' := fun k ns ds c' _ b bs h I' H' θ' s o' => by
    have o2 := o'.cut (n := c.length) bs
    have s2 := s.cut
    rw [o.len] at s2
    obtain ⟨h1, h2⟩ := h I' H' _ s2 o2
    exact ⟨h1, fun dx vs e l r => h2 dx vs e l (r.cut b)⟩
  exact ⟨key, fun k ns ds g b h => key k ns ds (c ++ g) (by simp) b (by simpa using o.low) (by simpa using h)⟩
end
def startD (n : Nat) (ds : List D) : Env := ds.map some ++ List.replicate (n - ds.length) none
theorem envOk_start {K : PySem.W.Frag} {I : Hp} {θ : List Addr} {N : List Str} {ds : List D} {vs : List V} (r : RepL K I θ ds vs) : EnvOk K I θ (L2.start N vs) (startD N.length ds) := by
  have hl := repL_len r
  unfold L2.start startD
  refine ⟨by simp [hl], fun i d h => ?_⟩
  rcases Nat.lt_or_ge i ds.length with q | q
  · rw [List.getElem?_append_left (by simpa using q), List.getElem?_map] at h
    cases e : ds[i]? with
    | none => rw [e] at h; cases h
    | some d' =>
      rw [e] at h
      cases h
      obtain ⟨v, h1, h2⟩ := repL_get r e
      exact ⟨v, by rw [List.getElem?_append_left (by simp [hl, q]), List.getElem?_map, h1]; rfl, h2⟩
  · rw [List.getElem?_append_right (by simpa using q)] at h
    obtain ⟨z, e⟩ := List.getElem?_eq_some_iff.mp h
    rw [List.getElem_replicate] at e
    cases e
/-- a def of the text by its body -/
theorem def_ok {P : Program} {w : World} {K : PySem.W.Frag} {mg : Str → Option Value} {base : Heap} {x qual : Str} {st : Stmt} {f : Addr} {fd : FuncData} {N ps : List Str} {k : Nat} {wf : GA} {ws : WpS} (F : Fun K x qual st f fd) (S : FnScope N ps (defScope st))
    (hb : ∀ (cdv : Value) (A : Around) (outer : List PySem.Env) (s : Shared) (H : Hp) (E : XK), Room k (A.deeper (envOfC qual (defScope st) s.heap.objs.size f cdv)) → JSs (cxOf (L2.CX P w) P w K mg base N qual (defScope st) f cdv A outer s H E) E (defBody st) ws)
    (hw : ∀ ds c Q X, QOk c Q → XOk c X → ds.length = ps.length → wf ds c Q X → ws (startD N.length ds) c { nx := fun _ c' => Q .non c', rt := Q } X) : FnOk P w K mg base (L2.CX P w) (k + 1) f fd ps (spD K ps.length wf) := by
  refine F.okX S (fun vs H Q E ⟨I, θ, ds, c, hl, r, _⟩ => by rw [repL_len r, hl]) fun cdv A outer s H vs Q E hr ⟨I, θ, ds, c, hl, r, o, h⟩ => ?_
  refine ⟨_, (hb cdv A outer s H E hr).ps, I, θ, _, c, envOk_start r, o, ?_⟩
  refine (hb cdv A outer s H E hr).mono _ _ { nx := fun _ c' => Lift K I H θ Q .non c', rt := Lift K I H θ Q } _ _ _ ⟨fun e c' z σ' I' H' θ' s' o' _ => z .non I' H' θ' s' o' rep_non, fun d c' z => z, fun _ _ z => z.elim, fun _ _ z => z.elim⟩ (XLe.refl _) (hw ds c _ _ (QOk.lift o) (XOk.lift o) hl h)
end DL
set_option Elab.async false
set_option linter.all false
set_option maxRecDepth 100000
set_option maxHeartbeats 1000000
/-! DL.S: statements, targets, loops, comprehensions. -/
namespace DL
open PySem PySem.Spec PyProof.Rows L2

section
variable {X : Cx} {E : XK} {st : Stmt} {rest : List Stmt} {e : Expr} {w : Wp} {u v : WpS} {t : WpT} {pos : Pos}
def sNext : WpS := fun env c O _ => O.nx env c
theorem sNext_mono : MonoS sNext := fun _ _ _ _ _ _ h _ k => h.nx _ _ k
def sSeq (u v : WpS) : WpS := fun env c O X => u env c { O with nx := fun e c' => v e c' O X } X
theorem sSeq_mono (mu : MonoS u) (mv : MonoS v) : MonoS (sSeq u v) := fun env c O O' X X' h hx k => mu _ _ { O with nx := fun e c' => v e c' O X } { O' with nx := fun e c' => v e c' O' X' } _ _ ⟨fun e c' z => mv _ _ _ _ _ _ h hx z, h.rt, h.bk, h.ct⟩ hx k
theorem jss_nil : JSs X E [] sNext := ⟨PSs.weak pss_nil fun D σ H ⟨I, θ, env, c, eo, o, k⟩ => k σ I H θ Step.refl o eo, sNext_mono⟩
theorem tSeq_of {K : PySem.W.Frag} (mu : MonoS u) (mv : MonoS v) {D : Ends} {σ : L2.St} {H : Hp} (k : tWS K E (sSeq u v) D σ H) : tSeq (tWS K E u) (tWS K E v) D σ H := by
  obtain ⟨I, θ, env, c, eo, o, k⟩ := k
  refine ⟨I, θ, env, c, eo, o, mu _ _ { LiftO K I H θ D with nx := fun e c' => v e c' (LiftO K I H θ D) (LiftX K I H θ E) } _ _ _ ⟨fun e c' z σ' I' H' θ' s' o' eo' => ?_, fun _ _ z => z, fun _ _ z => z, fun _ _ z => z⟩ (XLe.refl _) k⟩
  exact ⟨I', θ', e, c', eo', o', mv _ _ _ _ _ _ (LiftO.step s') (LiftX.step s') z⟩
theorem jss_cons (h1 : JS X E st u) (h2 : JSs X E rest v) : JSs X E (st :: rest) (sSeq u v) :=
  ⟨PSs.weak (pss_cons h1.ps h2.ps) fun D σ H k => tSeq_of h1.mono h2.mono k, sSeq_mono h1.mono h2.mono⟩
theorem jss_one (h1 : JS X E st u) : JSs X E [st] u := ⟨PSs.weak (pss_one h1.ps) fun _ _ _ k => k, h1.mono⟩
theorem js_pass : JS X E (.Pass pos) sNext := ⟨PS.weak ps_pass fun D σ H ⟨I, θ, env, c, eo, o, k⟩ => k σ I H θ Step.refl o eo, sNext_mono⟩
theorem js_doc {x j pos pos'} : JS X E (.Expr (.Constant (.str x) j pos) pos') sNext := ⟨PS.weak ps_doc fun D σ H ⟨I, θ, env, c, eo, o, k⟩ => k σ I H θ Step.refl o eo, sNext_mono⟩
def sBreak : WpS := fun env c O _ => O.bk env c
def sCont : WpS := fun env c O _ => O.ct env c
theorem js_break : JS X E (.Break pos) sBreak := ⟨PS.weak ps_break fun D σ H ⟨I, θ, env, c, eo, o, k⟩ => k σ I H θ Step.refl o eo, fun _ _ _ _ _ _ h _ k => h.bk _ _ k⟩
theorem js_cont : JS X E (.Continue pos) sCont := ⟨PS.weak ps_continue fun D σ H ⟨I, θ, env, c, eo, o, k⟩ => k σ I H θ Step.refl o eo, fun _ _ _ _ _ _ h _ k => h.ct _ _ k⟩
/-- return e -/
def sRet (w : Wp) : WpS := fun env c O X => w env c O.rt X
theorem js_ret (h : JE X E e w) : JS X E (.Return (some e) pos) (sRet w) :=
  ⟨PS.weak (ps_ret h.pe) fun D σ H k => k, fun _ _ _ _ _ _ hO hx k => h.mono _ _ _ _ _ _ hO.rt hx k⟩
def sRetN : WpS := fun _ c O _ => O.rt .non c
theorem js_retN : JS X E (.Return none pos) sRetN := ⟨PS.weak ps_retN fun D σ H ⟨I, θ, env, c, eo, o, k⟩ => k .non I H θ Step.refl o rep_non, fun _ _ _ _ _ _ hO hx k => hO.rt _ _ k⟩
/-- an expression, its value dropped -/
def sDrop (w : Wp) : WpS := fun env c O X => w env c (fun _ c' => O.nx env c') X
theorem js_expr (h : JE X E e w) (hs : swapsWith e none pos.line X.env = pure false := by rfl) : JS X E (.Expr e pos) (sDrop w) :=
  ⟨PS.weak (ps_expr h.pe hs) fun D σ H ⟨I, θ, env, c, eo, o, k⟩ => then_ h.mono eo o k fun d c1 v I1 H1 θ1 s1 o1 eo1 r1 k1 => k1 σ I1 H1 θ1 s1 o1 eo1,
   fun _ _ _ _ _ _ hO hx k => h.mono _ _ _ _ _ _ (fun _ _ z => hO.nx _ _ z) hx k⟩
/-- if -/
def sIf (t : WpT) (u v : WpS) : WpS := fun env c O X => t env c (fun b c' => if b = true then u env c' O X else v env c' O X) X
theorem js_if {a b : List Stmt} (ht : JT X E e t) (ha : JSs X E a u) (hb : JSs X E b v) : JS X E (.If e a b pos) (sIf t u v) :=
  ⟨PS.weak (ps_if ht.pt ha.ps hb.ps) fun D σ H ⟨I, θ, env, c, eo, o, k⟩ => thenT ht.mono eo o k fun b c1 I1 H1 θ1 s1 o1 eo1 k1 => by
    split at k1
    · rw [if_pos (by assumption)]; exact ⟨I1, θ1, env, c1, eo1, o1, ha.mono _ _ _ _ _ _ (LiftO.step s1) (LiftX.step s1) k1⟩
    · rw [if_neg (by assumption)]; exact ⟨I1, θ1, env, c1, eo1, o1, hb.mono _ _ _ _ _ _ (LiftO.step s1) (LiftX.step s1) k1⟩,
   fun env c O O' X X' hO hx k => ht.mono _ _ _ _ _ _ (fun b c' z => by
    split at z
    · rw [if_pos (by assumption)]; exact ha.mono _ _ _ _ _ _ hO hx z
    · rw [if_neg (by assumption)]; exact hb.mono _ _ _ _ _ _ hO hx z) hx k⟩
/-- a statement that is never come to -/
def sNever : WpS := fun _ _ _ _ => False
theorem js_never : JS X E st sNever := ⟨PS.weak ps_never fun D σ H ⟨I, θ, env, c, eo, o, k⟩ => k, fun _ _ _ _ _ _ _ _ k => k⟩
/-- a list of the slot i is changed no more from here on -/
def sFrz (i : Nat) (u : WpS) : WpS := fun env c O X => ∃ (j : Nat) (ds : List D), env[i]? = some (some (.cell j)) ∧ c[j]? = some (.lst ds) ∧ u (env.set i (some (.lst ds))) (c.set j .gone) O X
theorem jss_frz (i : Nat) (h : JSs X E rest u) : JSs X E rest (sFrz i u) :=
  ⟨PSs.weak h.ps fun D σ H ⟨I, θ, env, c, eo, o, j, ds, e1, e2, k⟩ => by
    obtain ⟨v, hv, r⟩ := eo.get _ _ e1
    unfold Rep at r
    obtain ⟨a, ha, rfl⟩ := r
    obtain ⟨vs, o2, he, rl, hi, hh⟩ := o.freeze ha e2
    have eo2 : EnvOk X.K (upd I a (.lst vs)) θ σ env := ⟨eo.len, fun i d h => by
      obtain ⟨v, h1, h2⟩ := eo.get i d h
      exact ⟨v, h1, h2.mono he fun _ _ z => z⟩⟩
    have eo3 := eo2.set i (rep_lst (K := X.K) (θ := θ) upd_same (rl.mono he fun _ _ z => z))
    have hσ : σ.set i (some (V.ref a)) = σ := by
      obtain ⟨hl, he⟩ := List.getElem?_eq_some_iff.mp hv
      apply List.ext_getElem? ; intro m
      by_cases q : i = m
      · subst q; rw [List.getElem?_set_self hl, hv]
      · rw [List.getElem?_set_ne q]
    rw [hσ] at eo3
    have s2 : Step I H θ (upd I a (.lst vs)) H θ := ⟨he, ⟨[], by simp, by simp⟩, fun _ _ z _ _ => z, fun x h n q => by
      have : x ≠ a := fun z => n (by rw [z]; exact List.mem_of_getElem? ha)
      rw [upd_ne this]; exact q, fun _ z => z⟩
    exact ⟨_, θ, _, _, eo3, o2, h.mono _ _ _ _ _ _ (LiftO.step s2) (LiftX.step s2) k⟩,
   fun env c O O' X X' hO hx ⟨j, ds, e1, e2, k⟩ => ⟨j, ds, e1, e2, h.mono _ _ _ _ _ _ hO hx k⟩⟩
end

/-! ### targets -/
abbrev WpG := D → Env → Cells → (Env → Cells → Prop) → XP → Prop
def MonoTg (g : WpG) : Prop := ∀ d env c Q Q' X X', (∀ e c, Q e c → Q' e c) → XLe X X' → g d env c Q X → g d env c Q' X'
def tWG (K : PySem.W.Frag) (E : XK) (g : WpG) : TG := fun v σ H Q => ∃ I θ env c d, EnvOk K I θ σ env ∧ Ok K I H θ c ∧ Rep K I θ d v ∧ g d env c (LiftN K I H θ Q) (LiftX K I H θ E)
structure JG (X : Cx) (E : XK) (tg : Expr) (g : WpG) : Prop where
  pg : PG X tg (tWG X.K E g)
  mono : MonoTg g
theorem PG.weak {X : Cx} {e : Expr} {t t' : TG} (h : PG X e t) (q : ∀ v σ H Q, t' v σ H Q → t v σ H Q) : PG X e t' := ⟨fun pins s σ H v u Q I r k => h.run pins s σ H v u Q I r (q v σ H Q k)⟩
section
variable {X : Cx} {E : XK} {st : Stmt} {e o i tg : Expr} {w wo wi : Wp} {g : WpG} {t : WpT} {pos pos' : Pos}
def gSet (i : Nat) : WpG := fun d env c Q _ => Q (env.set i (some d)) c
theorem gSet_mono (i : Nat) : MonoTg (gSet i) := fun _ _ _ _ _ _ _ h _ k => h _ _ k
theorem jg_name (i : Nat) {x : Str} (hN : X.N.Nodup) (hi : X.N[i]? = some x := by rfl) (hx : Loc X.env.scope x := by first | exact Or.inl rfl | exact Or.inr rfl) (hf : X.fn x = true ∨ X.env.scope.names.lookup x = some .local := by first | exact .inl rfl | exact .inr rfl | assumption) :
    JG X E (.Name x pos) (gSet i) := ⟨PG.weak (pg_name hN hi hx hf) fun v σ H Q ⟨I, θ, env, c, d, eo, o, r, k⟩ => k _ I H θ Step.refl o (eo.set i r), gSet_mono i⟩
/-- x = e -/
def sAsg (w : Wp) (g : WpG) : WpS := fun env c O X => w env c (fun d c' => g d env c' O.nx X) X
theorem sAsg_mono (m : Mono w) (mg : MonoTg g) : MonoS (sAsg w g) := fun env c O O' X X' hO hx k => m _ _ _ _ _ _ (fun d c' z => mg _ _ _ _ _ _ _ hO.nx hx z) hx k
theorem tAsg_of {K : PySem.W.Frag} (m : Mono w) (mg : MonoTg g) {D : Ends} {σ : L2.St} {H : Hp} (k : tWS K E (sAsg w g) D σ H) : tAsg (tW K (WC E) w) (tWG K E g) D σ H := by
  obtain ⟨I, θ, env, c, eo, o, k⟩ := k
  refine then_ m eo o k fun d c1 v I1 H1 θ1 s1 o1 eo1 r1 k1 => ?_
  exact ⟨I1, θ1, env, c1, d, eo1, o1, r1, mg _ _ _ _ _ _ _ (fun e c z => LiftN.step s1 z) (LiftX.step s1) k1⟩
theorem js_asg (h : JE X E e w) (hg : JG X E tg g) (hs : swapsWithSole [tg] e pos.line X.env = pure false := by rfl) (hw : swappedStores [tg] e X.env = pure none := by rfl)
    (h1 : (assignEach [tg] X.env).map (·.2) = [assign tg X.env] := by rfl) : JS X E (.Assign [tg] e pos) (sAsg w g) :=
  ⟨PS.weak (ps_asg h.pe hg.pg hs hw h1) fun D σ H k => tAsg_of h.mono hg.mono k, sAsg_mono h.mono hg.mono⟩
theorem js_set (i : Nat) {x : Str} (h : JE X E e w) (hN : X.N.Nodup) (hi : X.N[i]? = some x := by rfl) (hx : Loc X.env.scope x := by first | exact Or.inl rfl | exact Or.inr rfl) (hs : swapsWith e (some (.Name x pos')) pos.line X.env = pure false := by rfl) (hf : X.fn x = true ∨ X.env.scope.names.lookup x = some .local := by first | exact .inl rfl | exact .inr rfl | assumption) :
    JS X E (.Assign [.Name x pos'] e pos) (sAsg w (gSet i)) :=
  ⟨PS.weak (ps_set hN hi hx h.pe hs hf) fun D σ H ⟨I, θ, env, c, eo, o, k⟩ => then_ h.mono eo o k fun d c1 v I1 H1 θ1 s1 o1 eo1 r1 k1 => k1 _ I1 H1 θ1 s1 o1 (eo1.set i r1), sAsg_mono h.mono (gSet_mono i)⟩
/-- a, b = x, y: two local names -/
def sPar (i j : Nat) (wa : WpA) : WpS := fun env c O X => wa env c (fun ds c' => match ds with
  | [x, y] => O.nx ((env.set i (some x)).set j (some y)) c'
  | _ => False) X
theorem js_par (i j : Nat) {x y : Str} {a b : Expr} {wa : WpA} {px py pt : Pos} {kt k2 pt2} (hc : X.calm = true) (hN : X.N.Nodup) (ha : JA X E [a, b] wa) (hi : X.N[i]? = some x := by rfl) (hj : X.N[j]? = some y := by rfl) (hij : i ≠ j := by decide)
    (hx : X.env.scope.names.lookup x = some .local := by rfl) (hy : X.env.scope.names.lookup y = some .local := by rfl)
    (hw : swappedStores [.Tuple [.Name x px, .Name y py] kt pt] (.Tuple [a, b] k2 pt2) X.env = pure (some [x, y]) := by rfl)
    (hs : swapsWithSole [.Tuple [.Name x px, .Name y py] kt pt] (.Tuple [a, b] k2 pt2) pos.line X.env = pure false := by rfl) :
    JS X E (.Assign [.Tuple [.Name x px, .Name y py] kt pt] (.Tuple [a, b] k2 pt2) pos) (sPar i j wa) :=
  ⟨PS.weak (ps_par hc hN hi hj hij hx hy ha.pa hw hs) fun D σ H ⟨I, θ, env, c, eo, o, k⟩ => thenA ha.mono eo o k fun ds c1 vs I1 H1 θ1 s1 o1 eo1 r1 k1 => by
    match ds, r1, k1 with
    | [dx, dy], r1, k1 =>
      unfold RepL at r1
      obtain ⟨v, vs', rfl, ra, r2⟩ := r1
      unfold RepL at r2
      obtain ⟨v2, vs2, rfl, rb, r3⟩ := r2
      unfold RepL at r3
      subst r3
      exact ⟨v, v2, rfl, k1 _ I1 H1 θ1 s1 o1 ((eo1.set i ra).set j rb)⟩,
   fun env c O O' X X' hO hx k => ha.mono _ _ _ _ _ _ (fun ds c' z => by
    match ds, z with
    | [dx, dy], z => exact hO.nx _ _ z) hx k⟩
/-- the elements of a tuple to several targets -/
abbrev WpGs := List D → Env → Cells → (Env → Cells → Prop) → XP → Prop
def MonoTgs (g : WpGs) : Prop := ∀ d env c Q Q' X X', (∀ e c, Q e c → Q' e c) → XLe X X' → g d env c Q X → g d env c Q' X'
def tWGs (K : PySem.W.Frag) (E : XK) (g : WpGs) : TGs := fun v σ H Q => ∃ I θ env c d, EnvOk K I θ σ env ∧ Ok K I H θ c ∧ RepL K I θ d v ∧ g d env c (LiftN K I H θ Q) (LiftX K I H θ E)
structure JGs (X : Cx) (E : XK) (tg : List Expr) (g : WpGs) : Prop where
  pg : PGs X tg (tWGs X.K E g)
  mono : MonoTgs g
theorem PGs.weak {X : Cx} {e : List Expr} {t t' : TGs} (h : PGs X e t) (q : ∀ v σ H Q, t' v σ H Q → t v σ H Q) : PGs X e t' := ⟨fun pins s σ H v u Q I r k => h.run pins s σ H v u Q I r (q v σ H Q k)⟩
def gsNil : WpGs := fun ds env c Q _ => ds = [] ∧ Q env c
def gsCons (g : WpG) (gs : WpGs) : WpGs := fun ds env c Q X => match ds with
  | d :: r => g d env c (fun env' c' => gs r env' c' Q X) X
  | _ => False
theorem jgs_nil : JGs X E [] gsNil := ⟨PGs.weak pgs_nil fun v σ H Q ⟨I, θ, env, c, d, eo, o, r, e, k⟩ => by subst e; unfold RepL at r; exact ⟨r, k σ I H θ Step.refl o eo⟩, fun _ _ _ _ _ _ _ h _ k => ⟨k.1, h _ _ k.2⟩⟩
theorem jgs_cons {es : List Expr} {gs : WpGs} (h1 : JG X E e g) (h2 : JGs X E es gs) (hs : (assignEach (e :: es) X.env).map (·.2) = assign e X.env :: (assignEach es X.env).map (·.2) := by rfl) : JGs X E (e :: es) (gsCons g gs) :=
  ⟨PGs.weak (pgs_cons h1.pg h2.pg hs) fun vs σ H Q ⟨I, θ, env, c, ds, eo, o, r, k⟩ => by
    cases ds with
    | nil => exact k.elim
    | cons d ds =>
      unfold RepL at r
      obtain ⟨v, vs', rfl, r1, r2⟩ := r
      refine ⟨v, vs', rfl, I, θ, env, c, d, eo, o, r1, h1.mono _ _ _ _ _ _ _ (fun env' c' z σ' I' H' θ' s' o' eo' => ?_) (XLe.refl _) k⟩
      exact ⟨I', θ', env', c', ds, eo', o', s'.repL r2, h2.mono _ _ _ _ _ _ _ (fun e c z => LiftN.step s' z) (LiftX.step s') z⟩,
   fun ds env c Q Q' X X' h hx k => by
    cases ds with
    | nil => exact k
    | cons d ds => exact h1.mono _ _ _ _ _ _ _ (fun _ _ z => h2.mono _ _ _ _ _ _ _ h hx z) hx k⟩
def gTup (n : Nat) (gs : WpGs) : WpG := fun d env c Q X => match d with
  | .tup ds => ds.length = n ∧ gs ds env c Q X
  | _ => False
theorem jg_tup {es : List Expr} {k : Nat} {gs : WpGs} {n : Nat} (hc : X.calm = true) (h : JGs X E es gs) (hn : (assignEach es X.env).length = n := by rfl) (hst : (assignEach es X.env).findIdx? (·.1) = none := by rfl) : JG X E (.Tuple es k pos) (gTup n gs) :=
  ⟨PG.weak (pg_tup hc h.pg hn hst) fun v σ H Q ⟨I, θ, env, c, d, eo, o, r, k⟩ => by
    unfold DL.gTup at k
    split at k
    · rename_i ds
      unfold Rep at r
      obtain ⟨a, vs, rfl, r1, r2⟩ := r
      exact ⟨a, vs, rfl, sqt_ex o.ext r1, by rw [repL_len r2]; exact k.1, I, θ, env, c, ds, eo, o, r2, k.2⟩
    · exact k.elim,
   fun d env c Q Q' X X' hq hx k => by
    unfold DL.gTup at *
    split at k
    · exact ⟨k.1, h.mono _ _ _ _ _ _ _ hq hx k.2⟩
    · exact k.elim⟩
/-- o[i] = .. -/
abbrev G3 := D → D → D → Cells → (Cells → Prop) → Prop
structure Snd3 (K : PySem.W.Frag) (r : TSet) (g : G3) : Prop where
  run : ∀ I H θ c d1 d2 d3 x y z (Q : Hp → Prop), Ok K I H θ c → Rep K I θ d1 x → Rep K I θ d2 y → Rep K I θ d3 z → g d1 d2 d3 c (fun c' => ∀ I' H' θ', Step I H θ I' H' θ' → Ok K I' H' θ' c' → Q H') → r x y z H Q
  mono : ∀ d1 d2 d3 c Q Q', (∀ c, Q c → Q' c) → g d1 d2 d3 c Q → g d1 d2 d3 c Q'
def gAt (wo wi : Wp) (g : G3) : WpG := fun d env c Q X => wo env c (fun o c1 => wi env c1 (fun i c2 => g o i d c2 (Q env)) X) X
theorem jg_sub {r : TSet} {g3 : G3} (ho : JE X E o wo) (hi : JE X E i wi) (hs : PSet X r) (s : Snd3 X.K r g3)
    (ha : ∀ v, assign (.Subscript o i pos) X.env v = (do
      let ov ← holding [v] (eval o X.env)
      let iv ← holding [v, ov] (eval i X.env)
      standAt pos
      holding [v, ov, iv] (setItem ov iv v)
      release [v, ov, iv] []) := by intro _; rfl) : JG X E (.Subscript o i pos) (gAt wo wi g3) :=
  ⟨PG.weak (pg_sub ho.pe hi.pe hs ha) fun v σ H Q ⟨I, θ, env, c, d, eo, ok, r, k⟩ => by
    refine then_ ho.mono eo ok k fun do_ c1 x I1 H1 θ1 s1 o1 eo1 r1 k1 => ?_
    refine then_ hi.mono eo1 o1 (hi.mono _ _ _ _ _ _ (fun _ _ z => z) (LiftX.step s1) k1) fun di c2 y I2 H2 θ2 s2 o2 eo2 r2 k2 => ?_
    exact s.run I2 H2 θ2 c2 do_ di d x y v _ o2 (s2.rep r1) r2 (s2.rep (s1.rep r)) (s.mono _ _ _ _ _ _ (fun c' z I' H' θ' s' o' => z σ I' H' θ' ((s1.trans s2).trans s') o' ((eo2).step s')) k2),
   fun d env c Q Q' X X' hq hx k => ho.mono _ _ _ _ _ _ (fun _ _ z => hi.mono _ _ _ _ _ _ (fun _ _ z => s.mono _ _ _ _ _ _ (fun _ z => hq _ _ z) z) hx z) hx k⟩
end

/-! ### what is walked -/
/-- the turns of J give the things ds, one by one, whatever is done meanwhile to cells and to new things -/
def Wk (K : PySem.W.Frag) (J : It) (ds : List D) (I : Hp) (θ : List Addr) : Prop := ∀ I' H' θ' c' i, Ex I I' → (∀ (j : Nat) (a : Addr), θ[j]? = some a → θ'[j]? = some a) → Ok K I' H' θ' c' →
  (∀ d, ds[i]? = some d → J.go i H' ∧ ∀ x H'', J.yld i H' x H'' → ∃ I'', Step I' H' θ' I'' H'' θ' ∧ Ok K I'' H'' θ' c' ∧ Rep K I'' θ' d x) ∧ (ds.length ≤ i → J.stop i H')
def tWI (K : PySem.W.Frag) (E : XK) (wi : WpA) : TI := fun σ H R => ∃ I θ env c, EnvOk K I θ σ env ∧ Ok K I H θ c ∧ wi env c (fun ds c' => ∀ J I' H' θ', Step I H θ I' H' θ' → Ok K I' H' θ' c' → Wk K J ds I' θ' → R J H') (LiftX K I H θ E)
structure JI (X : Cx) (E : XK) (tg iter : Expr) (wi : WpA) : Prop where
  pi : PI X tg iter (tWI X.K E wi)
  mono : MonoA wi
theorem PI.weak {X : Cx} {tg e : Expr} {t t' : TI} (h : PI X tg e t) (q : ∀ σ H R, t' σ H R → t σ H R) : PI X tg e t' := ⟨fun pins s σ H R I k => h.run pins s σ H R I (q σ H R k)⟩
section
variable {K : PySem.W.Frag} {I : Hp} {θ : List Addr}
theorem wk_list {a : Addr} {vs : List V} {ds : List D} (h : SqL K I a vs) (r : RepL K I θ ds vs) : Wk K (Itl K a) ds I θ := fun I' H' θ' c' i e t o => by
  have h' : SqL K H' a vs := sql_ex (e.trans o.ext) h
  refine ⟨fun d hd => ?_, fun hl => ⟨vs, h', by rw [repL_len r]; exact hl⟩⟩
  obtain ⟨v, hv, rv⟩ := repL_get r hd
  refine ⟨⟨vs, v, h', hv⟩, fun x H'' hy => ?_⟩
  obtain ⟨rfl, hx⟩ := hy
  have hx' := hx vs h'
  rw [hv] at hx'
  cases hx'
  exact ⟨I', Step.refl, o, rv.mono e t⟩
theorem wk_tup {a : Addr} {vs : List V} {ds : List D} (h : SqT K I a vs) (r : RepL K I θ ds vs) : Wk K (Itt K a) ds I θ := fun I' H' θ' c' i e t o => by
  have h' : SqT K H' a vs := sqt_ex (e.trans o.ext) h
  refine ⟨fun d hd => ?_, fun hl => ⟨vs, h', by rw [repL_len r]; exact hl⟩⟩
  obtain ⟨v, hv, rv⟩ := repL_get r hd
  refine ⟨⟨vs, v, h', hv⟩, fun x H'' hy => ?_⟩
  obtain ⟨rfl, hx⟩ := hy
  have hx' := hx vs h'
  rw [hv] at hx'
  cases hx'
  exact ⟨I', Step.refl, o, rv.mono e t⟩
def ups (lo : Int) (n : Nat) : List D := (List.range n).map fun i : Nat => D.int (lo + i)
theorem wk_range {lo : Int} {n : Nat} : Wk K (Itr lo n) (ups lo n) I θ := fun I' H' θ' c' i e t o => by
  unfold ups
  refine ⟨fun d hd => ?_, fun hl => by show n ≤ i; simpa using hl⟩
  rw [List.getElem?_map] at hd
  by_cases q : i < n
  · rw [List.getElem?_range q] at hd
    cases hd
    exact ⟨q, fun x H'' hy => by obtain ⟨rfl, rfl⟩ := hy; exact ⟨I', Step.refl, o, rep_int⟩⟩
  · rw [List.getElem?_eq_none (by simpa using q)] at hd
    cases hd
end
section
variable {X : Cx} {E : XK} {tg e iter : Expr} {w : Wp} {wi wa : WpA} {g : WpG} {pos p : Pos}
/-- for x in a list, a tuple -/
def iSeq (w : Wp) : WpA := fun env c Q X => w env c (fun d c1 => match d with
  | .lst ds => Q ds c1
  | .rol ds => Q ds c1
  | _ => False) X
def iTupD (w : Wp) : WpA := fun env c Q X => w env c (fun d c1 => match d with
  | .tup ds => Q ds c1
  | _ => False) X
theorem iSeq_mono (m : Mono w) : MonoA (iSeq w) := fun env c Q Q' X X' h hx k => m _ _ _ _ _ _ (fun d c1 z => by
  split at z
  · exact h _ _ z
  · exact h _ _ z
  · exact z.elim) hx k
theorem iTup_mono (m : Mono w) : MonoA (iTupD w) := fun env c Q Q' X X' h hx k => m _ _ _ _ _ _ (fun d c1 z => by
  split at z
  · exact h _ _ z
  · exact z.elim) hx k
theorem ji_list (h : JE X E e w) : JI X E tg e (iSeq w) :=
  ⟨PI.weak (pi_list h.pe) fun σ H R ⟨I, θ, env, c, eo, o, k⟩ => then_ h.mono eo o k fun d c1 v I1 H1 θ1 s1 o1 eo1 r1 k1 => by
    split at k1
    · unfold Rep at r1
      obtain ⟨a, vs, rfl, r1, r2⟩ := r1
      exact ⟨a, rfl, ⟨vs, .inl (.inl (o1.ext _ _ r1))⟩, k1 _ I1 H1 θ1 s1 o1 (wk_list (SqL.of r1) r2)⟩
    · unfold Rep at r1
      obtain ⟨a, vs, rfl, r1, r2⟩ := r1
      exact ⟨a, rfl, ⟨vs, sql_ex o1.ext r1⟩, k1 _ I1 H1 θ1 s1 o1 (wk_list r1 r2)⟩
    · exact k1.elim, iSeq_mono h.mono⟩
theorem ji_tup (h : JE X E e w) : JI X E tg e (iTupD w) :=
  ⟨PI.weak (pi_tup h.pe) fun σ H R ⟨I, θ, env, c, eo, o, k⟩ => then_ h.mono eo o k fun d c1 v I1 H1 θ1 s1 o1 eo1 r1 k1 => by
    split at k1
    · unfold Rep at r1
      obtain ⟨a, vs, rfl, r1, r2⟩ := r1
      exact ⟨a, rfl, ⟨vs, sqt_ex o1.ext r1⟩, k1 _ I1 H1 θ1 s1 o1 (wk_tup r1 r2)⟩
    · exact k1.elim, iTup_mono h.mono⟩
end
end DL
set_option Elab.async false
set_option linter.all false
set_option maxRecDepth 100000
set_option maxHeartbeats 1000000
/-! DL.L: for, while, comprehensions. -/
namespace DL
open PySem PySem.Spec PyProof.Rows L2

/-- the turns of a for over ds -/
def forL (g : WpG) (u : WpS) : List D → Env → Cells → Out → XP → Prop
  | [], env, c, O, _ => O.nx env c
  | d :: ds, env, c, O, X => g d env c (fun env' c' => u env' c' { O with nx := fun e c => forL g u ds e c O X, ct := fun e c => forL g u ds e c O X, bk := O.nx } X) X
def sFor (wi : WpA) (g : WpG) (u : WpS) : WpS := fun env c O X => wi env c (fun ds c' => forL g u ds env c' O X) X
section
variable {g : WpG} {u : WpS} {wi : WpA}
theorem forL_mono (mg : MonoTg g) (mu : MonoS u) : ∀ (ds : List D) env c O O' X X', OLe O O' → XLe X X' → forL g u ds env c O X → forL g u ds env c O' X'
  | [], env, c, O, O', X, X', h, hx, k => h.nx _ _ k
  | d :: ds, env, c, O, O', X, X', h, hx, k => mg _ _ _ _ _ _ _ (fun e c' z => mu _ _ { O with nx := fun e c => forL g u ds e c O X, ct := fun e c => forL g u ds e c O X, bk := O.nx } { O' with nx := fun e c => forL g u ds e c O' X', ct := fun e c => forL g u ds e c O' X', bk := O'.nx } _ _
      ⟨fun e c z => forL_mono mg mu ds e c O O' X X' h hx z, h.rt, h.nx, fun e c z => forL_mono mg mu ds e c O O' X X' h hx z⟩ hx z) hx k
theorem sFor_mono (mi : MonoA wi) (mg : MonoTg g) (mu : MonoS u) : MonoS (sFor wi g u) := fun env c O O' X X' h hx k => mi _ _ _ _ _ _ (fun ds c' z => forL_mono mg mu ds _ _ _ _ _ _ h hx z) hx k
/-- a for by what holds behind the things gone through -/
theorem forL_inv {O : Out} {X : XP} (mg : MonoTg g) (mu : MonoS u) (Pv : List D → Env → Cells → Prop) : ∀ (ds pre : List D) (env : Env) (c : Cells), Pv pre env c →
    (∀ (pre' : List D) (d : D) (post : List D) (env : Env) (c : Cells), pre ++ ds = pre' ++ d :: post → Pv pre' env c → g d env c (fun env' c' => u env' c' { O with nx := Pv (pre' ++ [d]), ct := Pv (pre' ++ [d]), bk := O.nx } X) X) →
    (∀ (env : Env) (c : Cells), Pv (pre ++ ds) env c → O.nx env c) → forL g u ds env c O X
  | [], pre, env, c, h, _, he => he env c (by simpa using h)
  | d :: ds, pre, env, c, h, hs, he =>
    have key : ∀ (e : Env) (c : Cells), Pv (pre ++ [d]) e c → forL g u ds e c O X := fun e c z => forL_inv mg mu Pv ds (pre ++ [d]) e c z (fun pre' d' post env c e => hs pre' d' post env c (by rw [← e]; simp)) (fun env c z => he env c (by simpa using z))
    mg _ _ _ _ _ _ _ (fun e c' z => mu _ _ { O with nx := Pv (pre ++ [d]), ct := Pv (pre ++ [d]), bk := O.nx } { O with nx := fun e c => forL g u ds e c O X, ct := fun e c => forL g u ds e c O X, bk := O.nx } _ _
      ⟨fun e c z => key e c z, fun _ _ z => z, fun _ _ z => z, fun e c z => key e c z⟩ (XLe.refl _) z) (XLe.refl _) (hs pre d ds env c rfl h)
end
section
variable {X : Cx} {E : XK} {tg e iter : Expr} {body : List Stmt} {w : Wp} {wi wa : WpA} {g : WpG} {u : WpS} {t : WpT} {pos p : Pos}
theorem js_for (hp : PassesOwn (model X.prog X.w) X.A X.env X.xe) (hc : X.calm = true) (hi : JI X E tg iter wi) (hg : JG X E tg g) (hb : JSs X E body u) (hs : ∀ x, foldedSetIterable iter X.env x = pure x := by intro _; rfl) :
    JS X E (.For tg iter body [] pos) (sFor wi g u) :=
  ⟨PS.weak (ps_for hp hc hi.pi hg.pg hb.ps hs) fun D σ H ⟨I, θ, env, c, eo, o, k⟩ => by
    refine ⟨I, θ, env, c, eo, o, hi.mono _ _ _ _ _ _ (fun ds c1 k1 J I1 H1 θ1 s1 o1 wk => ?_) (XLe.refl _) k⟩
    refine ⟨fun i m σ' H' => m = ds.length - i ∧ ∃ I' θ' env' c', Step I1 H1 θ1 I' H' θ' ∧ Ok X.K I' H' θ' c' ∧ EnvOk X.K I' θ' σ' env' ∧ forL g u (ds.drop i) env' c' (LiftO X.K I' H' θ' D) (LiftX X.K I' H' θ' E), ⟨ds.length, rfl, I1, θ1, env, c1, Step.refl, o1, eo.step s1, ?_⟩, ?_⟩
    · exact forL_mono hg.mono hb.mono _ _ _ _ _ _ _ (LiftO.step s1) (LiftX.step s1) k1
    · rintro i m σ' H' ⟨hm, I', θ', env', c', s', o', eo', k'⟩
      have wk' := wk I' H' θ' c' i s'.ext s'.at o'
      cases e : ds.drop i with
      | nil =>
        rw [e] at k'
        exact .inl ⟨wk'.2 (List.drop_eq_nil_iff.mp e), k' σ' I' H' θ' Step.refl o' eo'⟩
      | cons d r =>
        rw [e] at k'
        have hd : ds[i]? = some d := by
          have := congrArg List.head? e
          simpa using this
        have hr : ds.drop (i + 1) = r := by
          have := congrArg List.tail e
          simpa using this
        have hlt : i < ds.length := (List.getElem?_eq_some_iff.mp hd).1
        obtain ⟨hgo, hy⟩ := wk'.1 d hd
        refine .inr ⟨hgo, fun σ2 H2 => ∃ I' θ' env' c', Step I1 H1 θ1 I' H2 θ' ∧ Ok X.K I' H2 θ' c' ∧ EnvOk X.K I' θ' σ2 env' ∧ forL g u r env' c' (LiftO X.K I' H2 θ' D) (LiftX X.K I' H2 θ' E), ?_, fun x H'' hx => ?_⟩
        · rintro σ2 H2 ⟨I2, θ2, env2, c2, s2, o2, eo2, k2⟩
          exact ⟨ds.length - (i + 1), by omega, rfl, I2, θ2, env2, c2, s2, o2, eo2, by rw [hr]; exact k2⟩
        · obtain ⟨I2, s2, o2, rx⟩ := hy x H'' hx
          have key : ∀ env3 c3, forL g u r env3 c3 (LiftO X.K I' H' θ' D) (LiftX X.K I' H' θ' E) → LiftN X.K I2 H'' θ' (fun σ2 H2 => ∃ I' θ' env' c', Step I1 H1 θ1 I' H2 θ' ∧ Ok X.K I' H2 θ' c' ∧ EnvOk X.K I' θ' σ2 env' ∧ forL g u r env' c' (LiftO X.K I' H2 θ' D) (LiftX X.K I' H2 θ' E)) env3 c3 := fun env3 c3 z σ3 I3 H3 θ3 s3 o3 eo3 =>
            ⟨I3, θ3, env3, c3, (s'.trans s2).trans s3, o3, eo3, forL_mono hg.mono hb.mono _ _ _ _ _ _ _ (LiftO.step (s2.trans s3)) (LiftX.step (s2.trans s3)) z⟩
          refine ⟨I2, θ', env', c', d, eo'.step s2, o2, rx, hg.mono _ _ _ _ _ _ _ (fun env3 c3 z σ3 I3 H3 θ3 s3 o3 eo3 => ?_) (LiftX.step s2) k'⟩
          have s23 := s2.trans s3
          refine ⟨I3, θ3, env3, c3, eo3, o3, hb.mono _ _ { LiftO X.K I' H' θ' D with nx := fun e c => forL g u r e c (LiftO X.K I' H' θ' D) (LiftX X.K I' H' θ' E), ct := fun e c => forL g u r e c (LiftO X.K I' H' θ' D) (LiftX X.K I' H' θ' E), bk := LiftN X.K I' H' θ' D.nx } _ _ _ ⟨fun e c z => ?_, fun d c z => Lift.step s23 z, fun e c z => LiftN.step s23 z, fun e c z => ?_⟩ (LiftX.step s23) z⟩
          · exact LiftN.step s3 (key e c z)
          · exact LiftN.step s3 (key e c z), sFor_mono hi.mono hg.mono hb.mono⟩
/-- while -/
def sWhile (t : WpT) (u : WpS) : WpS := fun env c O X => ∃ P : Nat → Env → Cells → Prop, (∃ m, P m env c) ∧ ∀ m env c, P m env c →
  t env c (fun b c' => if b = true then u env c' { O with nx := fun e c => ∃ m', m' < m ∧ P m' e c, ct := fun e c => ∃ m', m' < m ∧ P m' e c, bk := O.nx } X else O.nx env c') X
theorem js_while (hp : PassesOwn (model X.prog X.w) X.A X.env X.xe) (ht : JT X E e t) (hb : JSs X E body u) : JS X E (.While e body [] pos) (sWhile t u) :=
  ⟨PS.weak (ps_while hp ht.pt hb.ps) fun D σ H ⟨I, θ, env, c, eo, o, P, ⟨m0, h0⟩, k⟩ => by
    refine ⟨fun m σ' H' => ∃ I' θ' env' c', Step I H θ I' H' θ' ∧ Ok X.K I' H' θ' c' ∧ EnvOk X.K I' θ' σ' env' ∧ P m env' c', ⟨m0, I, θ, env, c, Step.refl, o, eo, h0⟩, ?_⟩
    rintro m σ' H' ⟨I', θ', env', c', s', o', eo', p'⟩
    refine thenT ht.mono eo' o' (ht.mono _ _ _ _ _ _ (fun _ _ z => z) (LiftX.step s') (k m env' c' p')) fun b c1 I1 H1 θ1 s1 o1 eo1 k1 => ?_
    split at k1
    · rw [if_pos (by assumption)]
      refine ⟨fun σ2 H2 => ∃ m', m' < m ∧ ∃ I' θ' env' c', Step I H θ I' H2 θ' ∧ Ok X.K I' H2 θ' c' ∧ EnvOk X.K I' θ' σ2 env' ∧ P m' env' c', fun σ2 H2 z => z, I1, θ1, env', c1, eo1, o1, ?_⟩
      have s01 := s'.trans s1
      refine hb.mono _ _ _ _ _ _ ⟨fun e c z => ?_, fun d c z => Lift.step s01 z, fun e c z => LiftN.step s01 z, fun e c z => ?_⟩ (LiftX.step s01) k1
      · intro σ3 I3 H3 θ3 s3 o3 eo3
        obtain ⟨m', hm, z⟩ := z
        exact ⟨m', hm, I3, θ3, e, c, s01.trans s3, o3, eo3, z⟩
      · intro σ3 I3 H3 θ3 s3 o3 eo3
        obtain ⟨m', hm, z⟩ := z
        exact ⟨m', hm, I3, θ3, e, c, s01.trans s3, o3, eo3, z⟩
    · rw [if_neg (by assumption)]
      exact LiftN.step (s'.trans s1) k1 σ' I1 H1 θ1 Step.refl o1 eo1,
   fun env c O O' X X' hO hx ⟨P, h0, k⟩ => ⟨P, h0, fun m env c p => ht.mono _ _ _ _ _ _ (fun b c' z => by
    split at z
    · rw [if_pos (by assumption)]
      exact hb.mono _ _ { O with nx := fun e c => ∃ m', m' < m ∧ P m' e c, ct := fun e c => ∃ m', m' < m ∧ P m' e c, bk := O.nx } { O' with nx := fun e c => ∃ m', m' < m ∧ P m' e c, ct := fun e c => ∃ m', m' < m ∧ P m' e c, bk := O'.nx } _ _ ⟨fun _ _ z => z, hO.rt, hO.nx, fun _ _ z => z⟩ hx z
    · rw [if_neg (by assumption)]; exact hO.nx _ _ z) hx (k m env c p)⟩⟩
end

/-! ### new lists: as data that changes no more, or as a cell -/
structure MkL (K : PySem.W.Frag) (mk : List D → Cells → QE → Prop) : Prop where
  run : ∀ I H θ c ds vs Q, Ok K I H θ c → RepL K I θ ds vs → mk ds c (Lift K I H θ Q) → ∀ p, H p = none → Q (.ref p) (upd H p (.lst vs))
  mono : ∀ ds c Q Q', (∀ d c, Q d c → Q' d c) → mk ds c Q → mk ds c Q'
def mkP : List D → Cells → QE → Prop := fun ds c Q => Q (.lst ds) c
def mkC : List D → Cells → QE → Prop := fun ds c Q => Q (.cell c.length) (c ++ [.lst ds])
theorem mkP_ok {K : PySem.W.Frag} : MkL K mkP := ⟨fun I H θ c ds vs Q o r k p hp => by
  obtain ⟨o1, s1⟩ := o.new (u := .lst vs) hp
  exact k (.ref p) _ _ _ s1 o1 (rep_lst upd_same (s1.repL r)), fun _ _ _ _ h k => h _ _ k⟩
theorem mkC_ok {K : PySem.W.Frag} : MkL K mkC := ⟨fun I H θ c ds vs Q o r k p hp => by
  obtain ⟨o1, s1⟩ := o.newCell (u := .lst vs) (m := .lst ds) hp ⟨o.free hp, vs, upd_same, r.mono (Ex.refl _) fun j a h => by rw [List.getElem?_append_left (List.getElem?_eq_some_iff.mp h).1]; exact h⟩
  exact k (.ref p) _ _ _ s1 o1 (rep_cell (by rw [← o.len]; simp)), fun _ _ _ _ h k => h _ _ k⟩
/-- new tuples -/
def mkT : List D → Cells → QE → Prop := fun ds c Q => Q (.tup ds) c
theorem mkT_ok {K : PySem.W.Frag} {I H : Hp} {θ : List Addr} {c : Cells} {ds : List D} {vs : List V} {Q : VK} (o : Ok K I H θ c) (r : RepL K I θ ds vs) (k : Lift K I H θ Q (.tup ds) c) : ∀ p, H p = none → Q (.ref p) (upd H p (.tup vs)) := fun p hp => by
  obtain ⟨o1, s1⟩ := o.new (u := .tup vs) hp
  exact k (.ref p) _ _ _ s1 o1 (rep_tup (SqT.of upd_same) (s1.repL r))

/-! ### displays -/
section
variable {X : Cx} {E : XK} {es : List Expr} {wa : WpA} {pos : Pos} {x1 : Nat} {mk : List D → Cells → QE → Prop}
def wLst (mk : List D → Cells → QE → Prop) (wa : WpA) : Wp := fun env c Q X => wa env c (fun ds c' => ds.length ≤ sizeLine ∧ mk ds c' Q) X
theorem je_lst (hm : MkL X.K mk) (h : JA X E es wa) : JE X E (.List es pos) (wLst mk wa) :=
  ⟨PE.weak (pe_lst h.pa) fun σ H Q ⟨I, θ, env, c, eo, o, k⟩ => thenA h.mono eo o k fun ds c1 vs I1 H1 θ1 s1 o1 eo1 r1 k1 =>
    ⟨by rw [repL_len r1]; exact k1.1, hm.run _ _ _ _ _ _ _ o1 r1 (hm.mono _ _ _ _ (fun _ _ z => Lift.step s1 z) k1.2)⟩,
   fun env c Q Q' X X' hq hx k => h.mono _ _ _ _ _ _ (fun _ _ z => ⟨z.1, hm.mono _ _ _ _ hq z.2⟩) hx k⟩
def wTup (wa : WpA) : Wp := fun env c Q X => wa env c (fun ds c' => ds.length ≤ sizeLine ∧ Q (.tup ds) c') X
theorem je_tup (h : JA X E es wa) : JE X E (.Tuple es x1 pos) (wTup wa) :=
  ⟨PE.weak (pe_tup h.pa) fun σ H Q ⟨I, θ, env, c, eo, o, k⟩ => thenA h.mono eo o k fun ds c1 vs I1 H1 θ1 s1 o1 eo1 r1 k1 =>
    ⟨by rw [repL_len r1]; exact k1.1, mkT_ok o1 r1 (Lift.step s1 k1.2)⟩,
   fun env c Q Q' X X' hq hx k => h.mono _ _ _ _ _ _ (fun _ _ z => ⟨z.1, hq _ _ z.2⟩) hx k⟩
end

/-! ### comprehensions -/
section
variable {K : PySem.W.Frag} {I I' H H' : Hp} {θ θ' : List Addr} {c : Cells}
theorem Step.upd_ {p : Addr} {u : HO} (s : Step I H θ I' H' θ') (h : H p = none) : Step I H θ I' (upd H' p u) θ' :=
  ⟨s.ext, s.th, fun a o k n q => by rw [upd_ne (fun z => by rw [z, h] at k; cases k)]; exact s.keep a o k n q, s.keepI, fun a k => by rw [upd_ne (fun z => k (by rw [z]; exact h))]; exact s.there a k⟩
theorem Step.del_ {p : Addr} (s : Step I H θ I' H' θ') (h : H p = none) : Step I H θ I' (L2.del H' p) θ' :=
  ⟨s.ext, s.th, fun a o k n q => by rw [L2.del_ne (fun z => by rw [z, h] at k; cases k)]; exact s.keep a o k n q, s.keepI, fun a k => by rw [L2.del_ne (fun z => k (by rw [z]; exact h))]; exact s.there a k⟩
theorem Ok.other {p : Addr} {H2 : Hp} (o : Ok K I H θ c) (hi : I p = none) (hn : p ∉ θ) (he : ∀ a, a ≠ p → H2 a = H a) : Ok K I H2 θ c := by
  have ne : ∀ a ∈ θ, a ≠ p := fun a m z => hn (by rw [← z]; exact m)
  refine ⟨fun a u e => ?_, o.len, o.nod, fun a m => by rw [he a (ne a m)]; exact o.trk a m, fun j a m h1 h2 => ?_⟩
  · have : a ≠ p := fun z => by rw [z, hi] at e; cases e
    rw [he a this]; exact o.ext a u e
  · have r := o.cell j a m h1 h2
    have q := he a (ne a (List.mem_of_getElem? h1))
    cases m with
    | lst ds => exact MRep.mono (Ex.refl _) (fun _ _ z => z) r.1 q r
    | dct ks ds => exact MRep.mono (Ex.refl _) (fun _ _ z => z) r.1 q r
    | ins C ns ds => exact MRep.mono (Ex.refl _) (fun _ _ z => z) r.1 q r
    | gone => exact True.intro
theorem Step.notin {p : Addr} (s : Step I H θ I' H' θ') (h : H p ≠ none) (hn : p ∉ θ) : p ∉ θ' := fun m => by
  obtain ⟨t, rfl, ht⟩ := s.th
  rcases List.mem_append.mp m with m | m
  · exact hn m
  · exact h (ht p m)
end
/-- what the turns over ds give, behind what they gave (acc); b: how a thing is bound -/
def compL (b : D → Env → Option Env) (t : WpT) (w : Wp) : List D → List D → Env → Cells → QA → Prop
  | [], acc, _, c, Q => Q acc c
  | d :: ds, acc, env, c, Q => match b d env with
    | some env1 => t env1 c (fun k c2 => if k = true then w env1 c2 (fun y c3 => acc.length < sizeLine ∧ compL b t w ds (acc ++ [y]) env c3 Q) (fun _ _ _ _ => False) else compL b t w ds acc env c2 Q) (fun _ _ _ _ => False)
    | none => False
theorem compL_mono {b : D → Env → Option Env} {t : WpT} {w : Wp} (mt : MonoT t) (m : Mono w) : ∀ (ds acc : List D) env c Q Q', (∀ d c, Q d c → Q' d c) → compL b t w ds acc env c Q → compL b t w ds acc env c Q'
  | [], acc, env, c, Q, Q', h, k => h _ _ k
  | d :: ds, acc, env, c, Q, Q', h, k => by
    unfold compL at k ⊢
    split at k
    · exact mt _ _ _ _ _ _ (fun b c2 z => by
        split at z
        · rw [if_pos (by assumption)]; exact m _ _ _ _ _ _ (fun y c3 z => ⟨z.1, compL_mono mt m ds _ _ _ _ _ h z.2⟩) (XLe.refl _) z
        · rw [if_neg (by assumption)]; exact compL_mono mt m ds _ _ _ _ _ h z) (XLe.refl _) k
    · exact k.elim
/-- a comprehension's names are forgotten (own: their slots) -/
def wipeE (env : Env) : List Nat → Env
  | [] => env
  | v :: vs => (wipeE env vs).set v none
theorem envOk_wipe {K : PySem.W.Frag} {I : Hp} {θ : List Addr} {σ : L2.St} {env : Env} (e : EnvOk K I θ σ env) : ∀ vs : List Nat, EnvOk K I θ (wipe σ vs) (wipeE env vs)
  | [] => e
  | v :: vs => (envOk_wipe e vs).wipe1 v
def wComp (mk : List D → Cells → QE → Prop) (wi : WpA) (b : D → Env → Option Env) (t : WpT) (w : Wp) (own : List Nat) : Wp := fun env c Q X => wi env c (fun ds c1 => compL b t w ds [] (wipeE env own) c1 (fun ys c2 => mk ys c2 Q)) X
/-- b tells what the target g does -/
def BindOk (K : PySem.W.Frag) (g : TG) (b : D → Env → Option Env) (own : List Nat) : Prop := ∀ I H θ c σ0 env d v env1 (Q : L2.St → Hp → Prop), EnvOk K I θ (wipe σ0 own) env → Ok K I H θ c → Rep K I θ d v → b d env = some env1 →
  (∀ σ1, EnvOk K I θ σ1 env1 → wipe σ1 own = wipe σ0 own → Q σ1 H) → g v (wipe σ0 own) H Q
def sYes : WpT := fun _ c Q _ => Q true c
theorem sYes_mono : MonoT sYes := fun _ _ _ _ _ _ h _ k => h _ _ k
abbrev F0 : XK := fun _ _ _ => False
section
variable {K : PySem.W.Frag} {E : XK} {wi : WpA} {b : D → Env → Option Env} {t : WpT} {w : Wp} {mk : List D → Cells → QE → Prop} {own : List Nat} {g : TG}
theorem tLc_of (hm : MkL K mk) (mi : MonoA wi) (mt : MonoT t) (mw : Mono w) (hb : BindOk K g b own) {σ : L2.St} {H : Hp} {Q : VK} (k : tW K (WC E) (wComp mk wi b t w own) σ H Q) : tLc (tWI K E wi) g (tWT K (WC F0) t) (tW K (WC F0) w) own σ H Q := by
  obtain ⟨I, θ, env, c, eo, o, k⟩ := k
  refine ⟨I, θ, env, c, eo, o, mi _ _ _ _ _ _ (fun ds c1 k1 J I1 H1 θ1 s1 o1 wk => ?_) (XLe.refl _) k⟩
  intro Dl hD
  have hID := o1.free hD
  have hDθ : Dl ∉ θ1 := fun z => o1.trk Dl z hD
  have ewk := envOk_wipe (eo.step s1) own
  refine ⟨fun i m H' => m = ds.length - i ∧ ∃ I' θ' c' acc vacc, Step I1 H1 θ1 I' H' θ' ∧ Ok K I' H' θ' c' ∧ I' Dl = none ∧ Dl ∉ θ' ∧ H' Dl = some (.lst vacc) ∧ RepL K I' θ' acc vacc ∧ compL b t w (ds.drop i) acc (wipeE env own) c' (fun ys c2 => mk ys c2 (Lift K I H θ Q)), ?_, ?_⟩
  · refine ⟨ds.length, rfl, I1, θ1, c1, [], [], Step.refl.upd_ hD, o1.other hID hDθ (fun a h => upd_ne h), hID, hDθ, upd_same, repL_nil, k1⟩
  · rintro i m H' ⟨hm', I', θ', c', acc, vacc, s', o', hI', hθ', hH', ra, k'⟩
    have wk' := wk I' H' θ' c' i s'.ext s'.at o'
    cases e : ds.drop i with
    | nil =>
      rw [e] at k'
      refine .inl ⟨wk'.2 (List.drop_eq_nil_iff.mp e), ?_⟩
      have eH : upd (L2.del H' Dl) Dl (.lst vacc) = H' := by
        funext a
        by_cases q : a = Dl
        · subst q; rw [upd_same, hH']
        · rw [upd_ne q, L2.del_ne q]
      have od : Ok K I' (L2.del H' Dl) θ' c' := o'.other hI' hθ' (fun a h => L2.del_ne h)
      have sd : Step I1 H1 θ1 I' (L2.del H' Dl) θ' := s'.del_ hD
      have := hm.run I' (L2.del H' Dl) θ' c' acc vacc Q od ra (hm.mono _ _ _ _ (fun d c z => Lift.step (s1.trans sd) z) k') Dl L2.del_same
      rw [eH] at this
      exact this
    | cons d r =>
      rw [e] at k'
      have hd : ds[i]? = some d := by
        have := congrArg List.head? e
        simpa using this
      have hr : ds.drop (i + 1) = r := by
        have := congrArg List.tail e
        simpa using this
      have hlt : i < ds.length := (List.getElem?_eq_some_iff.mp hd).1
      obtain ⟨hgo, hy⟩ := wk'.1 d hd
      refine .inr ⟨hgo, fun H2 => ∃ I' θ' c' acc vacc, Step I1 H1 θ1 I' H2 θ' ∧ Ok K I' H2 θ' c' ∧ I' Dl = none ∧ Dl ∉ θ' ∧ H2 Dl = some (.lst vacc) ∧ RepL K I' θ' acc vacc ∧ compL b t w r acc (wipeE env own) c' (fun ys c2 => mk ys c2 (Lift K I H θ Q)), ?_, fun x H'' hx => ?_⟩
      · rintro H2 ⟨I2, θ2, c2, acc2, vacc2, z⟩
        exact ⟨ds.length - (i + 1), by omega, rfl, I2, θ2, c2, acc2, vacc2, by rw [hr]; exact z⟩
      · obtain ⟨I2, s2, o2, rx⟩ := hy x H'' hx
        unfold compL at k'
        split at k'
        · rename_i env1 hb1
          refine hb I2 H'' θ' c' σ (wipeE env own) d x env1 _ (ewk.step (s'.trans s2)) o2 rx hb1 fun σ1 eo1 hw1 => ⟨hw1, ?_⟩
          refine thenT mt eo1 o2 (mt _ _ _ _ _ _ (fun _ _ z => z) (fun _ _ _ _ z => z.elim) k') fun b' c3 I3 H3 θ3 s3 o3 eo3 k3 => ?_
          have s13 := s'.trans (s2.trans s3)
          have s23 := s2.trans s3
          have hDne : H' Dl ≠ none := by rw [hH']; exact fun z => nomatch z
          have hH3 : H3 Dl = some (.lst vacc) := s23.keep Dl _ hH' hθ' (fun ps z => nomatch z)
          have hI3 : I3 Dl = none := s23.keepI Dl hDne hθ' hI'
          have hθ3 : Dl ∉ θ3 := s23.notin hDne hθ'
          split at k3
          · rw [if_pos (by assumption)]
            refine then_ mw eo3 o3 (mw _ _ _ _ _ _ (fun _ _ z => z) (fun _ _ _ _ z => z.elim) k3) fun y c4 v I4 H4 θ4 s4 o4 eo4 r4 k4 => ?_
            have hDne3 : H3 Dl ≠ none := by rw [hH3]; exact fun z => nomatch z
            have hI4 : I4 Dl = none := s4.keepI Dl hDne3 hθ3 hI3
            have hθ4 : Dl ∉ θ4 := s4.notin hDne3 hθ3
            have ra4 := s4.repL (s23.repL ra)
            refine ⟨vacc, s4.keep Dl _ hH3 hθ3 (fun ps z => nomatch z), by rw [repL_len ra]; exact k4.1, I4, θ4, c4, acc ++ [y], vacc ++ [v], (s13.trans s4).upd_ hD, o4.other hI4 hθ4 (fun a h => upd_ne h), hI4, hθ4, upd_same, repL_app ra4 (repL_cons r4 repL_nil), k4.2⟩
          · rw [if_neg (by assumption)]
            exact ⟨I3, θ3, c3, acc, vacc, s13, o3, hI3, hθ3, hH3, s23.repL ra, k3⟩
        · exact k'.elim
end
/-- x in a comprehension's for -/
def bind1 (i : Nat) : D → Env → Option Env := fun d env => some (env.set i (some d))
def setN : List Nat → List D → Env → Env
  | i :: is, d :: ds, env => setN is ds (env.set i (some d))
  | _, _, env => env
/-- a, b, .. in a comprehension's for -/
def bindT (is : List Nat) : D → Env → Option Env := fun d env => match d with
  | .tup ds => if ds.length = is.length then some (setN is ds env) else none
  | _ => none
theorem bind1_ok {K : PySem.W.Frag} {i : Nat} : BindOk K (L2.gName i) (bind1 i) [i] := fun I H θ c σ0 env d v env1 Q eo o r e k => by
  unfold bind1 at e
  cases e
  exact k _ (eo.set i r) (by simp [wipe])
theorem bind2_ok {K : PySem.W.Frag} {i j : Nat} (hij : i ≠ j) : BindOk K (L2.gTup K 2 (gCons (L2.gName i) (gCons (L2.gName j) gNil))) (bindT [i, j]) [i, j] := fun I H θ c σ0 env d v env1 Q eo o r e k => by
  unfold bindT at e
  split at e
  · rename_i ds
    split at e
    · rename_i hl
      cases e
      match ds, hl with
      | [a, b], _ =>
        unfold Rep at r
        obtain ⟨p, vs, rfl, hs, r⟩ := r
        unfold RepL at r
        obtain ⟨v1, vs1, rfl, r1, r⟩ := r
        unfold RepL at r
        obtain ⟨v2, vs2, rfl, r2, r⟩ := r
        unfold RepL at r
        subst r
        refine ⟨p, [v1, v2], rfl, sqt_ex o.ext hs, rfl, v1, [v2], rfl, v2, [], rfl, rfl, k _ ((eo.set i r1).set j r2) ?_⟩
        show ((((σ0.set j none).set i none).set i (some v1)).set j (some v2) |>.set j none).set i none = (σ0.set j none).set i none
        apply List.ext_getElem?
        intro n
        simp only [List.getElem?_set, List.length_set]
        by_cases h1 : i = n
        · simp [h1]
        · by_cases h2 : j = n
          · simp [h1, h2]
          · simp [h1, h2]
    · cases e
  · cases e
section
variable {X : Cx} {E : XK} {elt tg iter : Expr} {ifs : List Expr} {scope : Scope} {own : List (Str × Nat)} {pos : Pos} {wi : WpA} {b : D → Env → Option Env} {t : WpT} {w : Wp} {mk : List D → Cells → QE → Prop} {g : TG}
structure JTs (X : Cx) (E : XK) (es : List Expr) (w : WpT) : Prop where
  pt : PTs X es (tWT X.K (WC E) w)
  mono : MonoT w
theorem PTs.weak {X : Cx} {e : List Expr} {t t' : TT} (h : PTs X e t) (q : ∀ σ H Q, t' σ H Q → t σ H Q) : PTs X e t' := ⟨fun pins s σ H Q I k => h.run pins s σ H Q I (q σ H Q k)⟩
theorem jts_nil : JTs X E [] sYes := ⟨PTs.weak pts_nil fun σ H Q ⟨I, θ, env, c, eo, o, k⟩ => k I H θ Step.refl o, sYes_mono⟩
theorem jts_one {e : Expr} (h : JT X E e t) : JTs X E [e] t := ⟨pts_one h.pt, h.mono⟩
theorem je_lc (hm : MkL X.K mk) (hc : X.calm = true) (hN : X.N.Nodup) (hi : JI X E tg iter wi) (ok : BlkOk X.N X.env.scope scope own) (hb : BindOk X.K g b (own.map (·.2)))
    (hg : ∀ (s : Shared) (H : Hp) (C : Addr) (cl : List (Str × Addr)) (fp : List Addr), PG (X.blk s H scope (compEnvC scope cl C X.env) fp) tg g)
    (ht : ∀ (s : Shared) (H : Hp) (C : Addr) (cl : List (Str × Addr)) (fp : List Addr), JTs (X.blk s H scope (compEnvC scope cl C X.env) fp) F0 ifs t)
    (he : ∀ (s : Shared) (H : Hp) (C : Addr) (cl : List (Str × Addr)) (fp : List Addr), JE (X.blk s H scope (compEnvC scope cl C X.env) fp) F0 elt w)
    (hf : ∀ x, foldedSetIterable iter X.env x = pure x := by intro _; rfl) : JE X E (.ListComp elt [⟨tg, iter, ifs, 0⟩] scope pos) (wComp mk wi b t w (own.map (·.2))) :=
  have mt : MonoT t := (ht {} (fun _ => none) 0 [] []).mono
  have m : Mono w := (he {} (fun _ => none) 0 [] []).mono
  ⟨PE.weak (pe_lc hc hN hi.pi ok hg (fun s H C cl fp => (ht s H C cl fp).pt) (fun s H C cl fp => (he s H C cl fp).pe) hf) fun σ H Q k => tLc_of hm hi.mono mt m hb k,
   fun env c Q Q' X X' hq hx k => hi.mono _ _ _ _ _ _ (fun ds c1 z => compL_mono mt m _ _ _ _ _ _ (fun ys c2 z => hm.mono _ _ _ _ hq z) z) hx k⟩
end
end DL
set_option Elab.async false
set_option linter.all false
set_option maxRecDepth 100000
set_option maxHeartbeats 1000000
/-! DL.O: operations on data. -/
namespace DL
open PySem PySem.Spec PyProof.Rows L2

/-! ### ints -/
def gI (f : Int → Int → D) : G2 := fun x y c Q _ => match x, y with
  | .int i, .int j => Q (f i j) c
  | _, _ => False
def gIC (C : Int → Int → Prop) (f : Int → Int → D) : G2 := fun x y c Q _ => match x, y with
  | .int i, .int j => C i j ∧ Q (f i j) c
  | _, _ => False
theorem gI_mono (f : Int → Int → D) : Mono2 (gI f) := fun x y c Q Q' X X' h hx k => by
  unfold gI at *
  split at k
  · exact h _ _ k
  · exact k.elim
theorem gIC_mono (C : Int → Int → Prop) (f : Int → Int → D) : Mono2 (gIC C f) := fun x y c Q Q' X X' h hx k => by
  unfold gIC at *
  split at k
  · exact ⟨k.1, h _ _ k.2⟩
  · exact k.elim
theorem gI_ok {K : PySem.W.Frag} {f : Int → Int → V} {g : Int → Int → D} (hr : ∀ I θ i j, Rep K I θ (g i j) (f i j)) : Snd2 K (rI0 f) (gI g) := ⟨fun I H θ c dx dy x y Q Xp o r1 r2 k => by
  unfold gI at k
  split at k
  · unfold Rep at r1 r2
    exact ⟨_, _, r1, r2, k.here o (hr _ _ _ _)⟩
  · exact k.elim, gI_mono g⟩
theorem gIC_ok {K : PySem.W.Frag} {C : Int → Int → Prop} {f : Int → Int → V} {g : Int → Int → D} (hr : ∀ I θ i j, Rep K I θ (g i j) (f i j)) : Snd2 K (rI C f) (gIC C g) := ⟨fun I H θ c dx dy x y Q Xp o r1 r2 k => by
  unfold gIC at k
  split at k
  · unfold Rep at r1 r2
    exact ⟨_, _, r1, r2, k.1, k.2.here o (hr _ _ _ _)⟩
  · exact k.elim, gIC_mono C g⟩
abbrev gAdd : G2 := gI fun i j => .int (i + j)
abbrev gSub : G2 := gI fun i j => .int (i - j)
abbrev gMul : G2 := gIC CMulW fun i j => .int (i * j)
abbrev gDiv : G2 := gIC CDivW fun i j => .int (i / j)
abbrev gMod : G2 := gIC (fun _ j => 0 < j) fun i j => .int (i % j)
abbrev gPow : G2 := gIC CPow fun i j => .int (i ^ j.toNat)
abbrev gLt : G2 := gI fun i j => .bl (decide (i < j))
abbrev gLe : G2 := gI fun i j => .bl (decide (i ≤ j))
abbrev gGt : G2 := gI fun i j => .bl (decide (j < i))
abbrev gGe : G2 := gI fun i j => .bl (decide (j ≤ i))
section
variable {X : Cx} {E : XK} {a b e : Expr} {wa wb w : Wp} {pos : Pos}
theorem je_add (ha : JE X E a wa) (hb : JE X E b wb) : JE X E (.BinOp a .Add b pos) (w2 gAdd wa wb) := je_bin op_add (gI_ok fun _ _ _ _ => rep_int) ha hb
theorem je_sub (ha : JE X E a wa) (hb : JE X E b wb) : JE X E (.BinOp a .Sub b pos) (w2 gSub wa wb) := je_bin op_sub (gI_ok fun _ _ _ _ => rep_int) ha hb
theorem je_mul (ha : JE X E a wa) (hb : JE X E b wb) : JE X E (.BinOp a .Mult b pos) (w2 gMul wa wb) := je_bin op_mulW (gIC_ok fun _ _ _ _ => rep_int) ha hb
theorem je_div (ha : JE X E a wa) (hb : JE X E b wb) : JE X E (.BinOp a .FloorDiv b pos) (w2 gDiv wa wb) := je_bin op_fdivW (gIC_ok fun _ _ _ _ => rep_int) ha hb
theorem je_mod (ha : JE X E a wa) (hb : JE X E b wb) : JE X E (.BinOp a .Mod b pos) (w2 gMod wa wb) := je_bin op_mod (gIC_ok fun _ _ _ _ => rep_int) ha hb
theorem je_pow (ha : JE X E a wa) (hb : JE X E b wb) : JE X E (.BinOp a .Pow b pos) (w2 gPow wa wb) := je_bin op_pow (gIC_ok fun _ _ _ _ => rep_int) ha hb
theorem jt_lt (ha : JE X E a wa) (hb : JE X E b wb) : JT X E (.Compare a [.Lt] [b] pos) (wB (w2 gLt wa wb)) := jt_cmp op_lt (gI_ok fun _ _ _ _ => rep_bl) ha hb (nomark _)
theorem jt_le (ha : JE X E a wa) (hb : JE X E b wb) : JT X E (.Compare a [.LtE] [b] pos) (wB (w2 gLe wa wb)) := jt_cmp op_le (gI_ok fun _ _ _ _ => rep_bl) ha hb (nomark _)
theorem jt_gt (ha : JE X E a wa) (hb : JE X E b wb) : JT X E (.Compare a [.Gt] [b] pos) (wB (w2 gGt wa wb)) := jt_cmp op_gt (gI_ok fun _ _ _ _ => rep_bl) ha hb (nomark _)
theorem jt_ge (ha : JE X E a wa) (hb : JE X E b wb) : JT X E (.Compare a [.GtE] [b] pos) (wB (w2 gGe wa wb)) := jt_cmp op_ge (gI_ok fun _ _ _ _ => rep_bl) ha hb (nomark _)
end
/-! ### == of scalars -/
def scalD : D → D → Option Bool
  | .non, .non => some true
  | .int a, .int b => some (a == b)
  | .bl a, .bl b => some (a == b)
  | .str a, .str b => some (a == b)
  | .non, .int _ => some false
  | .int _, .non => some false
  | .non, .bl _ => some false
  | .bl _, .non => some false
  | .non, .str _ => some false
  | .str _, .non => some false
  | .int _, .str _ => some false
  | .str _, .int _ => some false
  | .bl _, .str _ => some false
  | .str _, .bl _ => some false
  | _, _ => none
def gEq : G2 := fun x y c Q _ => match scalD x y with
  | some b => Q (.bl b) c
  | none => False
def gNe : G2 := fun x y c Q _ => match scalD x y with
  | some b => Q (.bl (!b)) c
  | none => False
theorem scal_ok {K : PySem.W.Frag} {I : Hp} {θ : List Addr} {dx dy : D} {x y : V} {b : Bool} (r1 : Rep K I θ dx x) (r2 : Rep K I θ dy y) (h : scalD dx dy = some b) : scal x y = true ∧ decide (x = y) = b := by
  unfold scalD at h
  split at h <;> first | cases h | skip
  all_goals (unfold Rep at r1 r2; subst r1; subst r2; refine ⟨rfl, ?_⟩)
  all_goals first
    | exact dec_int
    | exact dec_bl
    | exact dec_str
    | (simp)
theorem gEq_ok {K : PySem.W.Frag} : Snd2 K rEq gEq := ⟨fun I H θ c dx dy x y Q Xp o r1 r2 k => by
  unfold gEq at k
  split at k
  · rename_i b h
    obtain ⟨h1, h2⟩ := scal_ok r1 r2 h
    exact ⟨h1, by rw [h2]; exact k.here o rep_bl⟩
  · exact k.elim, fun x y c Q Q' X X' h hx k => by
  unfold gEq at *
  split at k
  · exact h _ _ k
  · exact k.elim⟩
theorem gNe_ok {K : PySem.W.Frag} : Snd2 K rNe gNe := ⟨fun I H θ c dx dy x y Q Xp o r1 r2 k => by
  unfold gNe at k
  split at k
  · rename_i b h
    obtain ⟨h1, h2⟩ := scal_ok r1 r2 h
    exact ⟨h1, by rw [h2]; exact k.here o rep_bl⟩
  · exact k.elim, fun x y c Q Q' X X' h hx k => by
  unfold gNe at *
  split at k
  · exact h _ _ k
  · exact k.elim⟩
section
variable {X : Cx} {E : XK} {a b e : Expr} {wa wb w : Wp} {pos : Pos}
theorem jt_eq (ha : JE X E a wa) (hb : JE X E b wb) : JT X E (.Compare a [.Eq] [b] pos) (wB (w2 gEq wa wb)) := jt_cmp op_eq gEq_ok ha hb (nomark _)
theorem jt_ne (ha : JE X E a wa) (hb : JE X E b wb) : JT X E (.Compare a [.NotEq] [b] pos) (wB (w2 gNe wa wb)) := jt_cmp op_ne gNe_ok ha hb (nomark _)
theorem je_eq (ha : JE X E a wa) (hb : JE X E b wb) : JE X E (.Compare a [.Eq] [b] pos) (w2 gEq wa wb) := je_cmp op_eq gEq_ok ha hb (nomark _)
theorem je_ne (ha : JE X E a wa) (hb : JE X E b wb) : JE X E (.Compare a [.NotEq] [b] pos) (w2 gNe wa wb) := je_cmp op_ne gNe_ok ha hb (nomark _)
end

/-! ### rows: lists and tuples that are read -/
/-- the items of a list (data, or a cell), to be read -/
def lstD (c : Cells) : D → Option (List D)
  | .lst ds => some ds
  | .rol ds => some ds
  | .cell j => match c[j]? with
    | some (.lst ds) => some ds
    | _ => none
  | _ => none
theorem lstD_ok {K : PySem.W.Frag} {I H : Hp} {θ : List Addr} {c : Cells} {d : D} {v : V} {ds : List D} (o : Ok K I H θ c) (r : Rep K I θ d v) (h : lstD c d = some ds) : ∃ a vs, v = .ref a ∧ SqL K H a vs ∧ RepL K I θ ds vs := by
  unfold lstD at h
  split at h
  · cases h; unfold Rep at r; obtain ⟨a, vs, rfl, h1, h2⟩ := r; exact ⟨a, vs, rfl, SqL.of (o.ext _ _ h1), h2⟩
  · cases h; unfold Rep at r; obtain ⟨a, vs, rfl, h1, h2⟩ := r; exact ⟨a, vs, rfl, sql_ex o.ext h1, h2⟩
  · split at h
    · rename_i j ds' hc
      cases h
      unfold Rep at r
      obtain ⟨a, ha, rfl⟩ := r
      obtain ⟨_, vs, h1, h2⟩ := o.cell _ _ _ ha hc
      exact ⟨a, vs, rfl, SqL.of h1, h2⟩
    · cases h
  · cases h
/-- .. of one that is tracked for itself -/
def lstT (c : Cells) : D → Option (List D)
  | .lst ds => some ds
  | .cell j => match c[j]? with
    | some (.lst ds) => some ds
    | _ => none
  | _ => none
theorem lstT_ok {K : PySem.W.Frag} {I H : Hp} {θ : List Addr} {c : Cells} {d : D} {v : V} {ds : List D} (o : Ok K I H θ c) (r : Rep K I θ d v) (h : lstT c d = some ds) : ∃ a vs, v = .ref a ∧ H a = some (.lst vs) ∧ RepL K I θ ds vs := by
  unfold lstT at h
  split at h
  · cases h; unfold Rep at r; obtain ⟨a, vs, rfl, h1, h2⟩ := r; exact ⟨a, vs, rfl, o.ext _ _ h1, h2⟩
  · split at h
    · rename_i j ds' hc
      cases h
      unfold Rep at r
      obtain ⟨a, ha, rfl⟩ := r
      obtain ⟨_, vs, h1, h2⟩ := o.cell _ _ _ ha hc
      exact ⟨a, vs, rfl, h1, h2⟩
    · cases h
  · cases h
/-- xs[i] -/
def gIxL : G2 := fun x y c Q _ => match y with
  | .int i => match lstD c x with
    | some ds => match atI ds i with
      | some d => Q d c
      | none => False
    | none => False
  | _ => False
theorem atI_rep {K : PySem.W.Frag} {I : Hp} {θ : List Addr} {ds : List D} {vs : List V} {i : Int} {d : D} (r : RepL K I θ ds vs) (h : atI ds i = some d) : ∃ v, atI vs i = some v ∧ Rep K I θ d v := by
  unfold atI at *
  rw [repL_len r]
  cases e : ixN ds.length i with
  | none => rw [e] at h; cases h
  | some j =>
    rw [e] at h
    obtain ⟨v, h1, h2⟩ := repL_get r h
    exact ⟨v, h1, h2⟩
theorem gIxL_ok {K : PySem.W.Frag} : Snd2 K (rIxL K) gIxL := ⟨fun I H θ c dx dy x y Q Xp o r1 r2 k => by
  unfold gIxL at k
  split at k
  · split at k
    · rename_i ds hl
      split at k
      · rename_i d hd
        obtain ⟨a, vs, rfl, h1, h2⟩ := lstD_ok o r1 hl
        obtain ⟨v, h3, h4⟩ := atI_rep h2 hd
        unfold Rep at r2
        subst r2
        exact ⟨a, vs, _, v, rfl, rfl, h1, h3, k.here o h4⟩
      · exact k.elim
    · exact k.elim
  · exact k.elim, fun x y c Q Q' X X' h hx k => by
  unfold gIxL at *
  split at k
  · split at k
    · split at k
      · exact h _ _ k
      · exact k.elim
    · exact k.elim
  · exact k.elim⟩
/-- xs[i] = v, xs a cell -/
def g3L : G3 := fun o i v c Q => match o, i with
  | .cell j, .int n => match c[j]? with
    | some (.lst ds) => match ixN ds.length n with
      | some m => Q (c.set j (.lst (ds.set m v)))
      | none => False
    | _ => False
  | _, _ => False
theorem g3L_ok {K : PySem.W.Frag} : Snd3 K rSetL g3L := ⟨fun I H θ c d1 d2 d3 x y z Q o r1 r2 r3 k => by
  unfold g3L at k
  split at k
  · split at k
    · rename_i j n _ ds hc
      split at k
      · rename_i m hm
        unfold Rep at r1 r2
        obtain ⟨a, ha, rfl⟩ := r1
        subst r2
        obtain ⟨hi, vs, h1, h2⟩ := o.cell _ _ _ ha hc
        obtain ⟨o2, s2⟩ := o.write (u := .lst (vs.set m z)) (m := .lst (ds.set m d3)) ha hc (fun z => nomatch z) ⟨hi, _, upd_same, repL_set m h2 r3⟩
        exact ⟨a, vs, n, m, rfl, rfl, h1, by rw [repL_len h2]; exact hm, k I _ θ s2 o2⟩
      · exact k.elim
    · exact k.elim
  · exact k.elim, fun d1 d2 d3 c Q Q' h k => by
  unfold g3L at *
  split at k
  · split at k
    · split at k
      · exact h _ k
      · exact k.elim
    · exact k.elim
  · exact k.elim⟩
/-- xs + ys, new -/
def gCat (mk : List D → Cells → QE → Prop) : G2 := fun x y c Q _ => match lstT c x, lstT c y with
  | some xs, some ys => xs.length + ys.length ≤ sizeLine ∧ mk (xs ++ ys) c Q
  | _, _ => False
theorem gCat_ok {K : PySem.W.Frag} {mk : List D → Cells → QE → Prop} (hm : MkL K mk) : Snd2 K rCat (gCat mk) := ⟨fun I H θ c dx dy x y Q Xp o r1 r2 k => by
  unfold gCat at k
  split at k
  · rename_i xs ys h1 h2
    obtain ⟨a, vs, rfl, ha, ra⟩ := lstT_ok o r1 h1
    obtain ⟨b, us, rfl, hb, rb⟩ := lstT_ok o r2 h2
    exact ⟨a, b, vs, us, rfl, rfl, ha, hb, by rw [repL_len ra, repL_len rb]; exact k.1, hm.run _ _ _ _ _ _ _ o (repL_app ra rb) k.2⟩
  · exact k.elim, fun x y c Q Q' X X' h hx k => by
  unfold gCat at *
  split at k
  · exact ⟨k.1, hm.mono _ _ _ _ h k.2⟩
  · exact k.elim⟩
section
variable {X : Cx} {E : XK} {a b e o i : Expr} {wa wb w wo wi : Wp} {pos tpos : Pos} {mk : List D → Cells → QE → Prop}
theorem je_ixL (ha : JE X E a wa) (hb : JE X E b wb) (hp : PlainIx b := by intro _ _; rfl) : JE X E (.Subscript a b pos) (w2 gIxL wa wb) := je_ix ix_list gIxL_ok ha hb hp
theorem je_cat (hm : MkL X.K mk) (ha : JE X E a wa) (hb : JE X E b wb) : JE X E (.BinOp a .Add b pos) (w2 (gCat mk) wa wb) := je_bin op_cat (gCat_ok hm) ha hb
theorem jg_ixL (ho : JE X E o wo) (hi : JE X E i wi)
    (ha : ∀ v, assign (.Subscript o i pos) X.env v = (do
      let ov ← holding [v] (eval o X.env)
      let iv ← holding [v, ov] (eval i X.env)
      standAt pos
      holding [v, ov, iv] (setItem ov iv v)
      release [v, ov, iv] []) := by intro _; rfl) : JG X E (.Subscript o i pos) (gAt wo wi g3L) := jg_sub ho hi set_list g3L_ok ha
end

/-! ### slices -/
abbrev WpO := Env → Cells → (Option Int → Cells → Prop) → XP → Prop
def MonoO (w : WpO) : Prop := ∀ env c Q Q' X X', (∀ d c, Q d c → Q' d c) → XLe X X' → w env c Q X → w env c Q' X'
def tWO (K : PySem.W.Frag) (E : XK) (w : WpO) : TO := fun σ H Q => ∃ I θ env c, EnvOk K I θ σ env ∧ Ok K I H θ c ∧ w env c (fun o c' => ∀ I' H' θ', Step I H θ I' H' θ' → Ok K I' H' θ' c' → Q o H') (LiftX K I H θ E)
structure JO (X : Cx) (E : XK) (e : Option Expr) (w : WpO) : Prop where
  po : PO X e (tWO X.K E w)
  mono : MonoO w
theorem PO.weak {X : Cx} {e : Option Expr} {t t' : TO} (h : PO X e t) (q : ∀ σ H Q, t' σ H Q → t σ H Q) : PO X e t' := ⟨fun pins s σ H Q I k => h.run pins s σ H Q I (q σ H Q k)⟩
def oNone : WpO := fun _ c Q _ => Q none c
def oSome (w : Wp) : WpO := fun env c Q X => w env c (fun d c' => match d with
  | .int i => Q (some i) c'
  | _ => False) X
section
variable {X : Cx} {E : XK} {e : Expr} {lo hi : Option Expr} {w : Wp} {wl wh : WpO} {pos p2 : Pos} {mk : List D → Cells → QE → Prop}
theorem jo_none : JO X E none oNone := ⟨PO.weak po_none fun σ H Q ⟨I, θ, env, c, eo, o, k⟩ => k I H θ Step.refl o, fun _ _ _ _ _ _ h _ k => h _ _ k⟩
theorem jo_some (h : JE X E e w) : JO X E (some e) (oSome w) := ⟨PO.weak (po_some h.pe) fun σ H Q ⟨I, θ, env, c, eo, o, k⟩ => then_ h.mono eo o k fun d c1 v I1 H1 θ1 s1 o1 eo1 r1 k1 => by
    split at k1
    · unfold Rep at r1; exact ⟨_, r1, k1 I1 H1 θ1 s1 o1⟩
    · exact k1.elim, fun env c Q Q' X X' h' hx k => h.mono _ _ _ _ _ _ (fun d c' z => by
    split at z
    · exact h' _ _ z
    · exact z.elim) hx k⟩
theorem thenO {K : PySem.W.Frag} {σ : L2.St} {H : Hp} {I : Hp} {θ : List Addr} {env : Env} {c : Cells} {Q : Option Int → Hp → Prop} {q : Option Int → Cells → Prop} (m : MonoO wl) (eo : EnvOk K I θ σ env) (o : Ok K I H θ c)
    (h : wl env c q (LiftX K I H θ E)) (k : ∀ b c1 I1 H1 θ1, Step I H θ I1 H1 θ1 → Ok K I1 H1 θ1 c1 → EnvOk K I1 θ1 σ env → q b c1 → Q b H1) : tWO K E wl σ H Q :=
  ⟨I, θ, env, c, eo, o, m _ _ _ _ _ _ (fun d c1 hq I1 H1 θ1 s o1 => k d c1 I1 H1 θ1 s o1 (eo.step s) hq) (XLe.refl _) h⟩
def cutD (xs : List D) (lo hi : Option Int) : List D := (xs.drop (HT.sIx xs.length 0 lo)).take (HT.sIx xs.length xs.length hi - HT.sIx xs.length 0 lo)
abbrev GS := D → Option Int → Option Int → Cells → QE → XP → Prop
structure SndS (K : PySem.W.Frag) (r : V → Option Int → Option Int → Hp → VK → Prop) (g : GS) : Prop where
  run : ∀ I H θ c d x lo hi Q Xp, Ok K I H θ c → Rep K I θ d x → g d lo hi c (Lift K I H θ Q) Xp → r x lo hi H Q
  mono : ∀ d lo hi c Q Q' X X', (∀ d c, Q d c → Q' d c) → XLe X X' → g d lo hi c Q X → g d lo hi c Q' X'
def wSl (g : GS) (w : Wp) (wl wh : WpO) : Wp := fun env c Q X => w env c (fun d c1 => wl env c1 (fun l c2 => wh env c2 (fun u c3 => g d l u c3 Q X) X) X) X
theorem je_sl {r : V → Option Int → Option Int → Hp → VK → Prop} {g : GS} (hr : SlR X r) (s : SndS X.K r g) (h : JE X E e w) (hl : JO X E lo wl) (hu : JO X E hi wh) : JE X E (.Subscript e (.Slice lo hi none p2) pos) (wSl g w wl wh) :=
  ⟨PE.weak (pe_slice hr h.pe hl.po hu.po) fun σ H Q ⟨I, θ, env, c, eo, o, k⟩ => by
    refine then_ h.mono eo o k fun d c1 v I1 H1 θ1 s1 o1 eo1 r1 k1 => ?_
    refine thenO hl.mono eo1 o1 (hl.mono _ _ _ _ _ _ (fun _ _ z => z) (LiftX.step s1) k1) fun l c2 I2 H2 θ2 s2 o2 eo2 k2 => ?_
    refine thenO hu.mono eo2 o2 (hu.mono _ _ _ _ _ _ (fun _ _ z => z) (LiftX.step (s1.trans s2)) k2) fun u c3 I3 H3 θ3 s3 o3 eo3 k3 => ?_
    exact s.run I3 H3 θ3 c3 d v l u Q _ o3 ((s2.trans s3).rep r1) (s.mono _ _ _ _ _ _ _ _ (fun _ _ z => Lift.step ((s1.trans s2).trans s3) z) (XLe.refl _) k3),
   fun env c Q Q' X X' hq hx k => h.mono _ _ _ _ _ _ (fun _ _ z => hl.mono _ _ _ _ _ _ (fun _ _ z => hu.mono _ _ _ _ _ _ (fun _ _ z => s.mono _ _ _ _ _ _ _ _ hq hx z) hx z) hx z) hx k⟩
def gSlL (mk : List D → Cells → QE → Prop) : GS := fun d lo hi c Q _ => match lstD c d with
  | some ds => mk (cutD ds lo hi) c Q
  | none => False
theorem gSlL_ok {K : PySem.W.Frag} (hm : MkL K mk) : SndS K (rSlL K) (gSlL mk) := ⟨fun I H θ c d x lo hi Q Xp o r k => by
  unfold gSlL at k
  split at k
  · rename_i ds hd
    obtain ⟨a, vs, rfl, h1, h2⟩ := lstD_ok o r hd
    refine ⟨a, vs, rfl, h1, hm.run _ _ _ _ _ _ _ o ?_ k⟩
    unfold cutV cutD
    rw [repL_len h2]
    exact repL_take _ (repL_drop _ h2)
  · exact k.elim, fun d lo hi c Q Q' X X' h hx k => by
  unfold gSlL at *
  split at k
  · exact hm.mono _ _ _ _ h k
  · exact k.elim⟩
theorem je_slL (hm : MkL X.K mk) (h : JE X E e w) (hl : JO X E lo wl) (hu : JO X E hi wh) : JE X E (.Subscript e (.Slice lo hi none p2) pos) (wSl (gSlL mk) w wl wh) := je_sl sl_list (gSlL_ok hm) h hl hu
end

/-! ### built-in calls -/
def g1I (f : Int → D) : GA := fun ds c Q _ => match ds with
  | [.int i] => Q (f i) c
  | _ => False
def g2I (f : Int → Int → D) : GA := fun ds c Q _ => match ds with
  | [.int i, .int j] => Q (f i j) c
  | _ => False
theorem g1I_mono (f : Int → D) : MonoG (g1I f) := fun ds c Q Q' X X' h hx k => by
  unfold g1I at *
  split at k
  · exact h _ _ k
  · exact k.elim
theorem g2I_mono (f : Int → Int → D) : MonoG (g2I f) := fun ds c Q Q' X X' h hx k => by
  unfold g2I at *
  split at k
  · exact h _ _ k
  · exact k.elim
theorem repL1 {K : PySem.W.Frag} {I : Hp} {θ : List Addr} {d : D} {vs : List V} (r : RepL K I θ [d] vs) : ∃ v, vs = [v] ∧ Rep K I θ d v := by
  unfold RepL at r
  obtain ⟨v, vs', rfl, r1, r2⟩ := r
  unfold RepL at r2
  subst r2
  exact ⟨v, rfl, r1⟩
theorem repL2 {K : PySem.W.Frag} {I : Hp} {θ : List Addr} {d e : D} {vs : List V} (r : RepL K I θ [d, e] vs) : ∃ v u, vs = [v, u] ∧ Rep K I θ d v ∧ Rep K I θ e u := by
  unfold RepL at r
  obtain ⟨v, vs', rfl, r1, r2⟩ := r
  obtain ⟨u, rfl, r3⟩ := repL1 r2
  exact ⟨v, u, rfl, r1, r3⟩
abbrev gAbs : GA := g1I fun i => .int (if i < 0 then -i else i)
abbrev gInt : GA := g1I fun i => .int i
abbrev gMax2 : GA := g2I fun i j => .int (if j > i then j else i)
abbrev gMin2 : GA := g2I fun i j => .int (if j < i then j else i)
theorem gAbs_ok {K : PySem.W.Frag} : SndA K (fun xs H Q => ∃ i, xs = [.int i] ∧ Q (.int (if i < 0 then -i else i)) H) gAbs := ⟨fun I H θ c ds vs Q Xp o r k => by
  unfold gAbs g1I at k
  split at k
  · obtain ⟨v, rfl, rv⟩ := repL1 r
    unfold Rep at rv; subst rv
    exact ⟨_, rfl, k.here o rep_int⟩
  · exact k.elim, g1I_mono _⟩
theorem gInt_ok {K : PySem.W.Frag} : SndA K (fun xs H Q => (∃ i, xs = [V.int i] ∧ Q (.int i) H) ∨ ∃ k, xs = [V.bl k] ∧ Q (.int (if k then 1 else 0)) H) gInt := ⟨fun I H θ c ds vs Q Xp o r k => by
  unfold gInt g1I at k
  split at k
  · obtain ⟨v, rfl, rv⟩ := repL1 r
    unfold Rep at rv; subst rv
    exact .inl ⟨_, rfl, k.here o rep_int⟩
  · exact k.elim, g1I_mono _⟩
theorem gMax2_ok {K : PySem.W.Frag} : SndA K (fun xs H Q => ∃ i j, xs = [.int i, .int j] ∧ Q (.int (if j > i then j else i)) H) gMax2 := ⟨fun I H θ c ds vs Q Xp o r k => by
  unfold gMax2 g2I at k
  split at k
  · obtain ⟨v, u, rfl, r1, r2⟩ := repL2 r
    unfold Rep at r1 r2; subst r1; subst r2
    exact ⟨_, _, rfl, k.here o rep_int⟩
  · exact k.elim, g2I_mono _⟩
theorem gMin2_ok {K : PySem.W.Frag} : SndA K (fun xs H Q => ∃ i j, xs = [.int i, .int j] ∧ Q (.int (if j < i then j else i)) H) gMin2 := ⟨fun I H θ c ds vs Q Xp o r k => by
  unfold gMin2 g2I at k
  split at k
  · obtain ⟨v, u, rfl, r1, r2⟩ := repL2 r
    unfold Rep at r1 r2; subst r1; subst r2
    exact ⟨_, _, rfl, k.here o rep_int⟩
  · exact k.elim, g2I_mono _⟩
/-- len of a list -/
def gLenL : GA := fun ds c Q _ => match ds with
  | [d] => match lstD c d with
    | some xs => Q (.int xs.length) c
    | none => False
  | _ => False
theorem gLenL_ok {K : PySem.W.Frag} : SndA K (fun xs H Q => ∃ p ys, xs = [.ref p] ∧ (SqL K H p ys ∨ SqT K H p ys) ∧ Q (.int ys.length) H) gLenL := ⟨fun I H θ c ds vs Q Xp o r k => by
  unfold gLenL at k
  split at k
  · obtain ⟨v, rfl, rv⟩ := repL1 r
    split at k
    · rename_i xs hd
      obtain ⟨a, vs, rfl, h1, h2⟩ := lstD_ok o rv hd
      exact ⟨a, vs, rfl, .inl h1, by rw [repL_len h2]; exact k.here o rep_int⟩
    · exact k.elim
  · exact k.elim, fun ds c Q Q' X X' h hx k => by
  unfold gLenL at *
  split at k
  · split at k
    · exact h _ _ k
    · exact k.elim
  · exact k.elim⟩
/-- all, any of a list of bools -/
def bools : List D → Option (List Bool)
  | [] => some []
  | .bl b :: r => (bools r).map (b :: ·)
  | _ => none
theorem bools_ok {K : PySem.W.Frag} {I : Hp} {θ : List Addr} : ∀ {ds : List D} {vs : List V} {bs : List Bool}, RepL K I θ ds vs → bools ds = some bs → vs = bs.map V.bl
  | [], vs, bs, r, h => by unfold bools at h; cases h; unfold RepL at r; exact r
  | d :: ds, vs, bs, r, h => by
    unfold RepL at r
    obtain ⟨v, vs', rfl, r1, r2⟩ := r
    cases d with
    | bl b =>
      unfold bools at h
      cases e : bools ds with
      | none => rw [e] at h; cases h
      | some bs' =>
        rw [e] at h; cases h
        unfold Rep at r1
        rw [r1, bools_ok r2 e]; rfl
    | _ => unfold bools at h; cases h
theorem bools_map (bs : List Bool) : bools (bs.map D.bl) = some bs := by
  induction bs with
  | nil => rfl
  | cons b bs ih => rw [List.map_cons]; unfold bools; rw [ih]; rfl
def gAll (f : List Bool → Bool) : GA := fun ds c Q _ => match ds with
  | [d] => match lstD c d with
    | some xs => match bools xs with
      | some bs => Q (.bl (f bs)) c
      | none => False
    | none => False
  | _ => False
theorem gAll_mono (f : List Bool → Bool) : MonoG (gAll f) := fun ds c Q Q' X X' h hx k => by
  unfold gAll at *
  split at k
  · split at k
    · split at k
      · exact h _ _ k
      · exact k.elim
    · exact k.elim
  · exact k.elim
theorem gAll_run {K : PySem.W.Frag} {I H : Hp} {θ : List Addr} {c : Cells} {ds : List D} {vs : List V} {Q : VK} {Xp : XP} {f : List Bool → Bool} (o : Ok K I H θ c) (r : RepL K I θ ds vs) (k : gAll f ds c (Lift K I H θ Q) Xp) : ∃ (a : Addr) (bs : List Bool), vs = [V.ref a] ∧ SqL K H a (bs.map V.bl) ∧ Q (.bl (f bs)) H := by
  unfold gAll at k
  split at k
  · obtain ⟨v, rfl, rv⟩ := repL1 r
    split at k
    · rename_i xs hd
      split at k
      · rename_i bs hb
        obtain ⟨a, vs, rfl, h1, h2⟩ := lstD_ok o rv hd
        have e := bools_ok h2 hb
        subst e
        exact ⟨a, bs, rfl, h1, k.here o rep_bl⟩
      · exact k.elim
    · exact k.elim
  · exact k.elim
theorem gAll_ok {K : PySem.W.Frag} : SndA K (rAll K) (gAll fun bs => bs.all id) := ⟨fun I H θ c ds vs Q Xp o r k => gAll_run o r k, gAll_mono _⟩
theorem gAny_ok {K : PySem.W.Frag} : SndA K (rAny K) (gAll fun bs => bs.any id) := ⟨fun I H θ c ds vs Q Xp o r k => gAll_run o r k, gAll_mono _⟩
/-- for i in range(n), range(a, b) -/
def iR1 (wa : WpA) : WpA := fun env c Q X => wa env c (fun ds c' => match ds with
  | [.int j] => -(2 ^ 62) ≤ j ∧ j < 2 ^ 62 ∧ Q (ups 0 j.toNat) c'
  | _ => False) X
def iR2 (wa : WpA) : WpA := fun env c Q X => wa env c (fun ds c' => match ds with
  | [.int i, .int j] => (-(2 ^ 62) ≤ i ∧ i < 2 ^ 62 ∧ -(2 ^ 62) ≤ j ∧ j < 2 ^ 62) ∧ Q (ups i (j - i).toNat) c'
  | _ => False) X
section
variable {X : Cx} {E : XK} {a b tg : Expr} {wa : WpA} {p pos : Pos}
theorem ji_range1 (hg : Gl X "range") (hm : X.mg "range" = none) (ha : JA X E [a] wa) (hs : starEach [a] X.env = [(false, eval a X.env)] := by rfl) : JI X E tg (.Call (.Name "range" p) [a] [] pos) (iR1 wa) :=
  ⟨PI.weak (pi_range1 hg hm ha.pa hs) fun σ H R ⟨I, θ, env, c, eo, o, k⟩ => thenA ha.mono eo o k fun ds c1 vs I1 H1 θ1 s1 o1 eo1 r1 k1 => by
    split at k1
    · obtain ⟨v, rfl, rv⟩ := repL1 r1
      unfold Rep at rv; subst rv
      exact ⟨_, rfl, k1.1, k1.2.1, k1.2.2 _ I1 H1 θ1 s1 o1 wk_range⟩
    · exact k1.elim, fun env c Q Q' X X' h hx k => ha.mono _ _ _ _ _ _ (fun ds c' z => by
    split at z
    · exact ⟨z.1, z.2.1, h _ _ z.2.2⟩
    · exact z.elim) hx k⟩
theorem ji_range2 (hg : Gl X "range") (hm : X.mg "range" = none) (ha : JA X E [a, b] wa) (hs : starEach [a, b] X.env = [(false, eval a X.env), (false, eval b X.env)] := by rfl) (hs2 : starEach [b] X.env = [(false, eval b X.env)] := by rfl) : JI X E tg (.Call (.Name "range" p) [a, b] [] pos) (iR2 wa) :=
  ⟨PI.weak (pi_range2 hg hm ha.pa hs hs2) fun σ H R ⟨I, θ, env, c, eo, o, k⟩ => thenA ha.mono eo o k fun ds c1 vs I1 H1 θ1 s1 o1 eo1 r1 k1 => by
    split at k1
    · obtain ⟨v, u, rfl, r1, r2⟩ := repL2 r1
      unfold Rep at r1 r2; subst r1; subst r2
      exact ⟨_, _, rfl, k1.1, k1.2 _ I1 H1 θ1 s1 o1 wk_range⟩
    · exact k1.elim, fun env c Q Q' X X' h hx k => ha.mono _ _ _ _ _ _ (fun ds c' z => by
    split at z
    · exact ⟨z.1, h _ _ z.2⟩
    · exact z.elim) hx k⟩
end
/-- {} -/
def wDct0 : Wp := fun _ c Q _ => Q (.dct [] []) c
def wDct0C : Wp := fun _ c Q _ => Q (.cell c.length) (c ++ [.dct [] []])
theorem je_dct0 {X : Cx} {E : XK} {pos : Pos} : JE X E (.Dict [] [] pos) wDct0 := ⟨PE.weak pe_dnewK fun σ H Q ⟨I, θ, env, c, eo, o, k⟩ p hp => by
  obtain ⟨o1, s1⟩ := o.new (u := .dK []) hp
  exact k (.ref p) _ _ _ s1 o1 (by unfold Rep; exact ⟨p, [], rfl, by rw [upd_same]; rfl, rfl, repL_nil⟩), fun _ _ _ _ _ _ h _ k => h _ _ k⟩
theorem je_dct0C {X : Cx} {E : XK} {pos : Pos} : JE X E (.Dict [] [] pos) wDct0C := ⟨PE.weak pe_dnewK fun σ H Q ⟨I, θ, env, c, eo, o, k⟩ p hp => by
  obtain ⟨o1, s1⟩ := o.newCell (u := .dK []) (m := .dct [] []) hp ⟨o.free hp, [], by rw [upd_same]; rfl, rfl, repL_nil⟩
  exact k (.ref p) _ _ _ s1 o1 (rep_cell (by rw [← o.len]; simp)), fun _ _ _ _ _ _ h _ k => h _ _ k⟩
end DL
set_option Elab.async false
set_option linter.all false
set_option maxRecDepth 100000
set_option maxHeartbeats 1000000
/-! DL.M: methods of built-in types; list * int; count. -/
namespace DL
open PySem PySem.Spec PyProof.Rows L2

/-- xs * n -/
def gRepL (mk : List D → Cells → QE → Prop) : G2 := fun x y c Q _ => match lstT c x, y with
  | some xs, .int k => -(2 ^ 63) ≤ k ∧ k < 2 ^ 63 ∧ xs.length * k.toNat ≤ sizeLine ∧ mk (List.replicate k.toNat xs).flatten c Q
  | _, _ => False
theorem repL_repl {K : PySem.W.Frag} {I : Hp} {θ : List Addr} {ds : List D} {vs : List V} (r : RepL K I θ ds vs) : ∀ n : Nat, RepL K I θ (List.replicate n ds).flatten (List.replicate n vs).flatten
  | 0 => repL_nil
  | n + 1 => by rw [List.replicate_succ, List.replicate_succ, List.flatten_cons, List.flatten_cons]; exact repL_app r (repL_repl r n)
theorem gRepL_ok {K : PySem.W.Frag} {mk : List D → Cells → QE → Prop} (hm : MkL K mk) : Snd2 K rRep (gRepL mk) := ⟨fun I H θ c dx dy x y Q Xp o r1 r2 k => by
  unfold gRepL at k
  split at k
  · rename_i xs n h1
    obtain ⟨a, vs, rfl, ha, ra⟩ := lstT_ok o r1 h1
    unfold Rep at r2
    exact ⟨a, n, vs, rfl, r2, ha, k.1, k.2.1, by rw [repL_len ra]; exact k.2.2.1, hm.run _ _ _ _ _ _ _ o (repL_repl ra _) k.2.2.2⟩
  · exact k.elim, fun x y c Q Q' X X' h hx k => by
  unfold gRepL at *
  split at k
  · exact ⟨k.1, k.2.1, k.2.2.1, hm.mono _ _ _ _ h k.2.2.2⟩
  · exact k.elim⟩
theorem je_repL {X : Cx} {E : XK} {a b : Expr} {wa wb : Wp} {pos : Pos} {mk : List D → Cells → QE → Prop} (hm : MkL X.K mk) (ha : JE X E a wa) (hb : JE X E b wb) : JE X E (.BinOp a .Mult b pos) (w2 (gRepL mk) wa wb) := je_bin op_rep (gRepL_ok hm) ha hb

/-! ### methods -/
abbrev GM := D → List D → Cells → QE → XP → Prop
structure SndM (K : PySem.W.Frag) (T : String) (r : V → List V → Hp → VK → Prop) (g : GM) : Prop where
  ty : ∀ I H θ c d x, Ok K I H θ c → Rep K I θ d x → ∀ ds Q Xp, g d ds c Q Xp → tyV K T x H
  run : ∀ I H θ c d ds x vs Q Xp, Ok K I H θ c → Rep K I θ d x → RepL K I θ ds vs → g d ds c (Lift K I H θ Q) Xp → r x vs H Q
  mono : ∀ d ds c Q Q' X X', (∀ d c, Q d c → Q' d c) → XLe X X' → g d ds c Q X → g d ds c Q' X'
/-- the receiver's type is told ahead of the arguments: by ok -/
def wBM (ok : D → Cells → Prop) (g : GM) (wo : Wp) (wa : WpA) : Wp := fun env c Q X => wo env c (fun d c1 => ok d c1 ∧ wa env c1 (fun ds c2 => g d ds c2 Q X) X) X
theorem wBM_mono {ok : D → Cells → Prop} {g : GM} {wo : Wp} {wa : WpA} (mg : ∀ d ds c Q Q' X X', (∀ d c, Q d c → Q' d c) → XLe X X' → g d ds c Q X → g d ds c Q' X') (mo : Mono wo) (ma : MonoA wa) : Mono (wBM ok g wo wa) := fun env c Q Q' X X' h hx k =>
  mo _ _ _ _ _ _ (fun d c1 z => ⟨z.1, ma _ _ _ _ _ _ (fun ds c2 z => mg _ _ _ _ _ _ _ h hx z) hx z.2⟩) hx k
section
variable {X : Cx} {E : XK} {o e : Expr} {es : List Expr} {wo : Wp} {wa : WpA} {name : Str} {apos cpos : Pos} {T id : String} {r : V → List V → Hp → VK → Prop} {g : GM} {ok : D → Cells → Prop}
theorem je_bm (pa : PlainAttrs T) (slot : Slot T name id) (hty : typeOf (.builtin id) = pure (.type "method_descriptor")) (hm : MtR X id r)
    (hok : ∀ I H θ c d x, Ok X.K I H θ c → Rep X.K I θ d x → ok d c → tyV X.K T x H)
    (run : ∀ I H θ c d ds x vs Q Xp, Ok X.K I H θ c → Rep X.K I θ d x → RepL X.K I θ ds vs → g d ds c (Lift X.K I H θ Q) Xp → r x vs H Q)
    (mono : ∀ d ds c Q Q' X X', (∀ d c, Q d c → Q' d c) → XLe X X' → g d ds c Q X → g d ds c Q' X') (ho : JE X E o wo) (ha : JA X E (e :: es) wa)
    (hbase : attributeBase o name X.env (eval o X.env) = eval o X.env := by rfl)
    (hfew : ((backTo cpos (starEach (e :: es) X.env)).all (fun x => !x.1) && (backToKw cpos (keywordEach [] X.env)).all (fun x => x.1.isSome) && decide ((e :: es).length + ([] : List Keyword).length + (if ([] : List Keyword).isEmpty then 0 else 1) < 30)) = true := by rfl)
    (hline : (apos.endLine == cpos.line) = true := by rfl) (hs : starEach (e :: es) X.env = (false, eval e X.env) :: starEach es X.env := by rfl) (hplain : (backTo cpos (starEach es X.env)).any (·.1) = false := by rfl) :
    JE X E (.Call (.Attribute o name apos) (e :: es) [] cpos) (wBM ok g wo wa) :=
  ⟨PE.weak (pe_bm pa slot hty hm ho.pe ha.pa hbase hfew hline hs hplain) fun σ H Q ⟨I, θ, env, c, eo, oo, k⟩ => by
    refine then_ ho.mono eo oo k fun d c1 x I1 H1 θ1 s1 o1 eo1 r1 k1 => ⟨hok _ _ _ _ _ _ o1 r1 k1.1, ?_⟩
    refine thenA ha.mono eo1 o1 (ha.mono _ _ _ _ _ _ (fun _ _ z => z) (LiftX.step s1) k1.2) fun ds c2 vs I2 H2 θ2 s2 o2 eo2 r2 k2 => ?_
    exact run I2 H2 θ2 c2 d ds x vs Q _ o2 (s2.rep r1) r2 (mono _ _ _ _ _ _ _ (fun _ _ z => Lift.step (s1.trans s2) z) (XLe.refl _) k2),
   wBM_mono mono ho.mono ha.mono⟩
end
def okL (d : D) (c : Cells) : Prop := ∃ ds, lstD c d = some ds
theorem okL_ty {K : PySem.W.Frag} : ∀ I H θ c d x, Ok K I H θ c → Rep K I θ d x → okL d c → tyV K "list" x H := fun I H θ c d x o r ⟨ds, h⟩ => by
  obtain ⟨a, vs, rfl, h1, _⟩ := lstD_ok o r h
  exact .inl ⟨rfl, vs, h1⟩
/-- xs.count(y) of flat things -/
def rCntV (K : PySem.W.Frag) : V → List V → Hp → VK → Prop := fun x xs H Q => ∃ (p : Addr) (ys : List V) (y : V), x = .ref p ∧ xs = [y] ∧ SqL K H p ys ∧ flatV y = true ∧ ys.all flatV = true ∧ Q (.int (ys.countP fun z => eqV z y : Nat)) H
theorem countP_eqU {x : V} : ∀ {xs : List V} {us : List Value}, Vals xs us → xs.all flatV = true → us.countP (eqU x) = xs.countP fun y => eqV y x
  | _, _, .nil, _ => rfl
  | _, _, .cons r s, h => by
    simp only [List.all_cons, Bool.and_eq_true] at h
    rw [List.countP_cons, List.countP_cons, countP_eqU s h.2, eqU_of r h.1]
theorem mt_cntV {X : Cx} : MtR X "list.count" (rCntV X.K) := by
  intro pins s σ H x xs v us Q I rx rxs h
  obtain ⟨p, ys, y, rfl, rfl, hs, fy, fa, q⟩ := h
  cases rx
  obtain ⟨u, rfl, ru⟩ := rxs.one
  obtain ⟨its, rv, ⟨⟨cls, dd, data, sl⟩, n, ho, hc, hdn, hd⟩, hlen⟩ := I.list hs
  simp only at hc hd
  subst hc hd
  have all := fun (A : Around) (s : Shared) => mem_eqAt (A := A) (s := s) ru fy rv fa
  refine call_meets PySem.F.slot_list_count ⟨_, ho, rfl⟩ PySem.F.entry_list_count (PySem.F.args_list_count_2 _ _)
    (SeqAt.list_countAt p its.toArray n dd sl u (eqU y)) ⟨ho, fun z hz => all _ _ z (by simpa using hz), ?_⟩
  have ec : its.toArray.toList.countP (eqU y) = ys.countP fun z => eqV z y := countP_eqU rv fa
  refine ⟨.int (ys.countP fun z => eqV z y : Nat), H, I.tok _, ⟨s.toks, ?_⟩, q⟩
  show Value.int ((its.toArray.toList.countP (eqU y) : Nat) : Int) s.toks = _
  rw [ec]
/-- bs.count(True) -/
def gCntB : GM := fun d ds c Q _ => match ds with
  | [.bl y] => match lstD c d with
    | some xs => match bools xs with
      | some bs => Q (.int (bs.countP fun b => b == y : Nat)) c
      | none => False
    | none => False
  | _ => False
theorem gCntB_run {K : PySem.W.Frag} : ∀ I H θ c d ds x vs Q Xp, Ok K I H θ c → Rep K I θ d x → RepL K I θ ds vs → gCntB d ds c (Lift K I H θ Q) Xp → rCntV K x vs H Q := fun I H θ c d ds x vs Q Xp o r1 r2 k => by
  unfold gCntB at k
  split at k
  · rename_i y
    split at k
    · rename_i xs hl
      split at k
      · rename_i bs hb
        obtain ⟨v, rfl, rv⟩ := repL1 r2
        unfold Rep at rv
        subst rv
        obtain ⟨a, us, rfl, h1, h2⟩ := lstD_ok o r1 hl
        have e := bools_ok h2 hb
        subst e
        refine ⟨a, _, _, rfl, rfl, h1, rfl, by simp [flatV], ?_⟩
        have e2 : (bs.map V.bl).countP (fun z => eqV z (V.bl y)) = bs.countP fun b => b == y := by
          rw [List.countP_map]; rfl
        rw [e2]
        exact k.here o rep_int
      · exact k.elim
    · exact k.elim
  · exact k.elim
theorem gCntB_mono : ∀ d ds c Q Q' X X', (∀ d c, Q d c → Q' d c) → XLe X X' → gCntB d ds c Q X → gCntB d ds c Q' X' := fun d ds c Q Q' X X' h hx k => by
  unfold gCntB at *
  split at k
  · split at k
    · split at k
      · exact h _ _ k
      · exact k.elim
    · exact k.elim
  · exact k.elim
theorem je_cntB {X : Cx} {E : XK} {o e : Expr} {wo : Wp} {wa : WpA} {apos cpos : Pos} (ho : JE X E o wo) (ha : JA X E [e] wa)
    (hbase : attributeBase o "count" X.env (eval o X.env) = eval o X.env := by rfl)
    (hfew : ((backTo cpos (starEach [e] X.env)).all (fun x => !x.1) && (backToKw cpos (keywordEach [] X.env)).all (fun x => x.1.isSome) && decide ([e].length + ([] : List Keyword).length + (if ([] : List Keyword).isEmpty then 0 else 1) < 30)) = true := by rfl)
    (hline : (apos.endLine == cpos.line) = true := by rfl) (hs : starEach [e] X.env = [(false, eval e X.env)] := by rfl) (hplain : (backTo cpos (starEach [] X.env)).any (·.1) = false := by rfl) :
    JE X E (.Call (.Attribute o "count" apos) [e] [] cpos) (wBM okL gCntB wo wa) :=
  je_bm PySem.F.plainAttrs_list PySem.F.slot_list_count PySem.F.type_list_count mt_cntV okL_ty gCntB_run gCntB_mono ho ha hbase hfew hline hs hplain
end DL
set_option Elab.async false
set_option linter.all false
set_option maxRecDepth 100000
set_option maxHeartbeats 2000000
/-! EXG: exceptions of own classes over any built-in base, as values: made by C(v) and C(f=v), e.f, isinstance. -/
namespace DL
open PySem PySem.W PySem.Calls PyProof.Rows PySem.HandSPX L2

/-- own classes ahead of a built-in class's own row -/
def Tail (tl l : List Value) : Prop := ∃ rs : List Addr, l = rs.map Value.ref ++ tl
theorem Tail.contains {tl l : List Value} (h : Tail tl l) (T : String) : l.contains (.type T) = tl.contains (.type T) := by
  obtain ⟨rs, rfl⟩ := h
  induction rs with
  | nil => rfl
  | cons a r ih =>
    rw [List.map_cons, List.cons_append, List.contains_cons, ih]
    rfl
theorem Tail.pass {tl l : List Value} (h : Tail tl l) (v : Value) (ht : refuseLoop v "__setattr__" tl = pure ()) : refuseLoop v "__setattr__" l = pure () := by
  obtain ⟨rs, rfl⟩ := h
  induction rs with
  | nil => exact ht
  | cons a r ih =>
    rw [List.map_cons, List.cons_append, refuseLoop_ref]
    exact ih
theorem Tail.full {tl l : List Value} (h : Tail tl l) (ht : tl.contains (.type "object") = true) : l.isEmpty = false := by
  have q := h.contains "object"
  rw [ht] at q
  cases l with
  | nil => cases q
  | cons _ _ => rfl
theorem Tail.cons {tl l : List Value} (h : Tail tl l) (C : Addr) : Tail tl (.ref C :: l) := by
  obtain ⟨rs, rfl⟩ := h
  exact ⟨C :: rs, rfl⟩
/-- by deciding -/
def tailB (tl : List Value) : List Value → Bool
  | .ref _ :: r => tailB tl r
  | l => l == tl
theorem tail_of {tl : List Value} : ∀ {l : List Value}, tailB tl l = true → Tail tl l
  | .ref a :: r, h => (tail_of (l := r) h).cons a
  | [], h => ⟨[], by simpa [tailB] using h⟩
  | .none :: r, h => ⟨[], by simpa [tailB] using h⟩
  | .ellipsis :: r, h => ⟨[], by simpa [tailB] using h⟩
  | .notImplemented :: r, h => ⟨[], by simpa [tailB] using h⟩
  | .bool _ :: r, h => ⟨[], by simpa [tailB] using h⟩
  | .int _ _ :: r, h => ⟨[], by simpa [tailB] using h⟩
  | .float _ _ :: r, h => ⟨[], by simpa [tailB] using h⟩
  | .str _ _ :: r, h => ⟨[], by simpa [tailB] using h⟩
  | .bytes _ _ :: r, h => ⟨[], by simpa [tailB] using h⟩
  | .type _ :: r, h => ⟨[], by simpa [tailB] using h⟩
  | .builtin _ :: r, h => ⟨[], by simpa [tailB] using h⟩

section
open Builtin Builtin.ObjectAttr
variable {prog : Program} {w : World} {A : Around} {E : Value → Shared → Prop} {R : Result → Shared → Prop} {hp : Heap} {g : Array GenState} {d : Drawn} {t : Nat} {os : OsState}
/-- self.name = v on an exception without a dict, over any base -/
theorem osaG {K : W.Frag} {name : Str} {tk : Tok} {v : Value} {x C : Addr} {fv : Array Value} {cd : ClassData} {tl : List Value} {B : String} (SB : StoreFacts B tl "object.__setattr__" "object") (hobj : tl.contains (.type "object") = true)
    (KI : K.In hp) (hx : hp.get? x = some { cls := .ref C, data := .fields fv }) (hcd : W.clsIn K C = some cd) (hm : Tail tl cd.mro)
    (hh : cd.hasDict = true) (ha : W.findIn K (.ref C) name = some none)
    (hq : ∀ h' tk' dx, (∀ b o, b ≠ x → hp.get? b = some o → h'.get? b = some o) → hp.objs.size ≤ dx → dx ≠ x →
      h'.get? x = some { cls := .ref C, dict := some dx, data := .fields fv } → h'.Ns1 dx (fun y => if y = name then some v else none) → R (.ok (.ret .none)) ⟨h', g, d, tk', os⟩) :
    codeAny (model prog w) A (.call (.builtin "object.__setattr__") ⟨[.ref x, .str name tk, v], []⟩) R ⟨hp, g, d, t, os⟩ := by
  have J : W.InstAt hp x { cls := .ref C, data := .fields fv } C none := ⟨hx, rfl, rfl, trivial⟩
  have S := F.store_object
  have full := hm.full hobj
  have hasO : cd.mro.contains (.type "object") = true := (hm.contains "object").trans hobj
  have apart : x ≠ hp.objs.size := Nat.ne_of_lt (Heap.lt_size hx)
  have isO : W.Looks (model prog w) hp (isInstance (.ref x) (.type "object")) true :=
    J.type.andThen (W.looks_mroIn KI (by unfold W.mroIn; rw [hcd, Option.bind_some, if_neg (by rw [full]; decide), hasO]))
  refine codeAny_call_builtin S.slot.plain S.entry (@W.check_slot (model prog w) _ _ ⟨hp, g, d, t, os⟩ "object.__setattr__" "object" "__setattr__" (.ref x)
    [.str name tk, v] [] _ S.kind S.split isO (S.args (.ref x) (.str name tk) v) ?_)
  have lm : W.Looks (model prog w) hp (mroOf (.ref C)) cd.mro := (W.looks_clsIn KI hcd).andThen .now
  have ln : W.Looks (model prog w) hp (storeTaker? none) none := .now
  have lc : W.Looks (model prog w) hp (classData C) cd := W.looks_clsIn KI hcd
  rw [W.osa_eq, refuse_eq]
  refine wpAny_bind (wpAny_bind (J.type.at (wpAny_bind (lm.at ?_))))
  rw [hm.pass _ (SB.passes _)]
  refine wpAny_pure (wpAny_bind (J.type.at (wpAny_bind ((W.looks_findIn KI ha).at (wpAny_bind (ln.at ?_))))))
  show wpAny _ _ (storeInOwnDict (.ref x) (.ref C) (.str name tk) name v false) _ _ _
  obtain ⟨c1, c2, c3, c4, c5, c6, c7, c8, c9, c10, c11⟩ := cd
  dsimp only at hh
  subst hh
  unfold storeInOwnDict ownDictForStores
  repeat (first | with_reducible refine HandSPX.store_in_new ?_ ?_ | with_reducible refine wpAny_loadPart_at hx ?_ | with_reducible refine lc.at ?_ | wp_step)
  · exact ⟨_, #[], _, (Heap.get?_update_ne _ _ _ _ apart.symm).trans (Heap.get?_push_at rfl rfl), rfl, fun e he => absurd he (by simp), fun _ => rfl⟩
  · intro h' tk' hn' hs
    have kept : (hp.push { cls := .type "dict", data := .dict #[] }).get? x = some { cls := .ref C, data := .fields fv } := Heap.get?_push_of_some _ hx
    refine hq h' tk' hp.objs.size (fun b o hb ho => ?_) (Nat.le_refl _) apart.symm ((hs.2 x apart).trans (Heap.get?_update_self _ kept rfl)) hn'
    exact (hs.2 b (Nat.ne_of_lt (Heap.lt_size ho))).trans ((Heap.get?_update_ne _ _ _ _ hb).trans (Heap.get?_push_of_some _ ho))
end

/-! ### the text of __init__: self.f = f -/
def eA (f : Str) (p1 p2 : Pos) : Arguments := { posonlyargs := [], args := [{ arg := "self", annotation := none, pos := p1 }, { arg := f, annotation := none, pos := p2 }], vararg := none, kwonlyargs := [], kw_defaults := [], kwarg := none, defaults := [] }
def eB (f : Str) (q1 q2 q3 q4 : Pos) : List Stmt := [.Assign [.Attribute (.Name "self" q1) f q2] (.Name f q3) q4]
def eS (f : Str) : Scope := { kind := .function, names := [(PySem.Str.ofString "self", .local), (f, .local)], isGenerator := false, isCoroutine := false, more := [] }
/-- what the written part says of such a class, at C, with its __init__ at fI and its field f -/
structure ExcT (K : Frag) (C fI : Addr) (q f : Str) (tl : List Value) (B newId initId : String) : Prop where
  base : ExcBaseFacts B newId initId tl
  sto : StoreFacts B tl "object.__setattr__" "object"
  obj : tl.contains (.type "object") = true
  cls : ∃ nm qn N bs bm sn sub ab col dd k0 k1 k2 k3 k5, K.lookup C = some (excClassObj nm qn C N bs bm true sn sub ab col dd k0 k1 k2 k3 k5 newId) ∧ tailB tl bm = true
  sa : findIn K (.ref C) "__setattr__" = some (some (.builtin "object.__setattr__"))
  ga : findIn K (.ref C) "__getattribute__" = some (some (.builtin "BaseException.__getattribute__"))
  gg : findIn K (.ref C) "__getattr__" = some none
  noN : findIn K (.ref C) f = some none
  iC : findIn K (.ref C) "__init__" = some (some (.ref fI))
  tC : typeIn K (.ref fI) = some (.type "function")
  kC : keepIn K (.ref C) = true
  exC : subIn K (.ref C) (.type "BaseException") = some true
  tyC : typeIn K (.ref C) = some (.type "type")
  hdC : hasDictIn K C = true
  fn : ∃ (oc : Value) (od : Option Addr) (doc pm : Value) (an : Option Addr) (cdv ct : Value) (osl : Array (Option Value)) (p1 p2 q1 q2 q3 q4 : Pos),
    K.lookup fI = some ⟨oc, od, .func (fnOf "__init__" q (eA f p1 p2) (eB f q1 q2 q3 q4) (eS f) .none .none doc pm an cdv ct), osl⟩ ∧ codeIn K cdv q = true
/-- what is there behind C(v) -/
structure MadeE (h h' : Heap) (C x dx t1 : Addr) (f : Str) (v : Value) : Prop where
  keep : ∀ b o, h.get? b = some o → h'.get? b = some o
  new : h.objs.size ≤ x
  obj : h'.get? x = some { cls := .ref C, dict := some dx, data := .fields #[.ref t1, .none, .none, .none, .bool false, .none] }
  dbig : h.objs.size ≤ dx
  dne : dx ≠ x
  ns : h'.Ns1 dx (fun y => if y = f then some v else none)
section
variable {prog : Program} {w : World} {A : Around} {R : Result → Shared → Prop} {s : Shared} {K : Frag} {C fI : Addr} {q f : Str} {tl : List Value} {B newId initId : String}
theorem init_run (T : ExcT K C fI q f tl B newId initId) (hf : ((f == ("self" : Str)) = false)) (hfd : (f == ("__debug__" : Str)) = false) {x t0 : Addr} {v : Value} {args : Args} (KI : K.In s.heap) (hlim : s.heap.NoLimit) (hx : s.heap.get? x = some (excO C t0)) (hroom : A.depth < recursionLimit)
    (hb : ∀ (doc pm : Value) (an : Option Addr) (cdv ct : Value) (p1 p2 q1 q2 q3 q4 : Pos), BindsTo s (fnOf "__init__" q (eA f p1 p2) (eB f q1 q2 q3 q4) (eS f) .none .none doc pm an cdv ct) args [("self", .ref x), (f, v)])
    (hq : ∀ h' tk dx, (∀ b o, b ≠ x → s.heap.get? b = some o → h'.get? b = some o) → s.heap.objs.size ≤ dx → dx ≠ x → h'.get? x = some { cls := .ref C, dict := some dx, data := .fields #[.ref t0, .none, .none, .none, .bool false, .none] } →
      h'.Ns1 dx (fun y => if y = f then some v else none) → R (.ok (.ret .none)) { s with heap := h', toks := tk }) :
    codeAny (model prog w) A (.call (.ref fI) args) R s := by
  obtain ⟨oc, od, doc, pm, an, cdv, ct, osl, p1, p2, q1, q2, q3, q4, ho, hcd⟩ := T.fn
  obtain ⟨nm, qn, N, bs, bm, sn, sub, ab, col, dd, k0, k1, k2, k3, k5, hC, hbm⟩ := T.cls
  have hcl : clsIn K C = some { name := nm, bases := bs, mro := .ref C :: bm, ns := N, qualname := qn, hasDict := true, slotNames := sn, subclasses := sub, abstract := ab, collection := col, hasDel := false } := by
    unfold clsIn; rw [hC] <;> rfl
  have kS : (eS f).names.lookup (PySem.Str.ofString "self") = some .local := rfl
  have kF : (eS f).names.lookup f = some .local := by simp [eS, List.lookup, hf]
  refine Att.call_fn (binds := [("self", .ref x), (f, v)]) KI hlim ho hcd hroom (hb doc pm an cdv ct p1 p2 q1 q2 q3 q4) (by simp [kS, kF]) (fun s₁ IC => ?_) rfl rfl rfl
  obtain ⟨h₁, tk₁, rfl⟩ := IC.toInCall.same
  have k : ∀ b o, s.heap.get? b = some o → h₁.get? b = some o := IC.toInCall.keep
  have hn := IC.toInCall.ns
  have KI1 : K.In h₁ := KI.keeps k
  have hx1 := k _ _ hx
  generalize hen : envOfC q (eS f) s.heap.objs.size fI cdv = en at hn ⊢
  have eK : ∀ y, en.kindOf y = (eS f).names.lookup y := fun y => by rw [← hen]; rfl
  have eL : en.locals = s.heap.objs.size := by rw [← hen]; rfl
  have mF : bindL en.kindOf [("self", .ref x), (f, v)] (fun _ => none) f = some v := by
    simp [bindL, eK, kS, kF]
  have mS : bindL en.kindOf [("self", .ref x), (f, v)] (fun _ => none) "self" = some (.ref x) := by
    have hf' : ¬ (("self" : Str) = f) := fun z => by rw [← z] at hf; simp at hf
    simp [bindL, eK, kS, kF, hf']
  have ld : ∀ (y : Str) (u : Value) (pos : Pos) (Q : Value → Shared → Prop) (E : Value → Shared → Prop) (A' : Around) (tk : Nat), (eS f).names.lookup y = some .local → bindL en.kindOf [("self", .ref x), (f, v)] (fun _ => none) y = some u → (y == ("__debug__" : Str)) = false →
      Q u ⟨h₁, s.gens, s.drawn, tk, s.os⟩ → wpAny (model prog w) A' (eval (.Name y pos) en) Q E ⟨h₁, s.gens, s.drawn, tk, s.os⟩ := fun y u pos Q E A' tk hy hm hd k1 =>
    wpAny_Name (wpAny_loadName_local (by rw [← hen]; rfl) (by rw [eK]; exact hy) (by rw [eL]; exact hn) hm k1) hd
  show wpAny _ _ (execs _ _) _ _ _
  refine wpAny_execs_cons (plainObj_wpAny_Assign_Attribute ?_)
  refine ld f v _ _ _ _ _ kF mF hfd (ld "self" (.ref x) _ _ _ _ _ kS mS (by decide) ?_)
  refine set_plain KI1 (ox := excO C t0) (od := none) ⟨hx1, rfl, rfl, trivial⟩ T.sa ?_
  refine osaG T.sto T.obj KI1 hx1 hcl ((tail_of hbm).cons C) rfl T.noN (fun h3 tk3 dx k3 dn dne hx3 hn3 => ?_)
  show wpAny _ _ (execs _ _) _ _ _
  have z : s.heap.objs.size < h₁.objs.size := hn.lt
  exact wpAny_execs_nil (hq h3 tk3 dx (fun b o hb e => k3 b o hb (k b o e)) (Nat.le_of_lt (Nat.lt_of_lt_of_le z dn)) dne hx3 hn3)
end

/-! ### C(v), C(f=v) -/
section
variable {prog : Program} {w : World} {A : Around} {E : Value → Shared → Prop} {R : Result → Shared → Prop} {h : Heap} {g : Array GenState} {d : Drawn} {t : Nat} {os : OsState}
variable {nm q : Str} {C N : Addr} {bs bm tl : List Value} {hdct : Bool} {sn : List Str} {sub : List Value} {ab : Bool} {col : Option Bool} {dd : Option Addr} {k0 k1 k2 k3 k5 : Option Value} {B newId initId : String}
theorem checkK (F : ExcBaseFacts B newId initId tl) (ht : Tail tl bm) {rest : List Value} {kw : List (Str × Value)} {Q : Unit → Shared → Prop}
    (hC : h.get? C = some (excClassObj nm q C N bs bm hdct sn sub ab col dd k0 k1 k2 k3 k5 newId)) (hq : Q () ⟨h, g, d, t, os⟩) : wpAny (model prog w) A (checkBuiltinCall newId ⟨.ref C :: rest, kw⟩) Q E ⟨h, g, d, t, os⟩ := by
  have has : (Value.ref C :: bm).contains (.type B) = true := by rw [(ht.cons C).contains, F.hasB]
  have star := F.noStar
  simp only [checkBuiltinCall, F.newKind, F.newSplit, F.newRow]
  repeat (first | refine wpAny_loadPart_at hC ?_ | (refine wpAny_isSubtype_exc hC ?_; rw [has]) | refine wpAny_staticBase_exc hC ?_
                     | refine wpAny_madeBy_exc hC ?_ | simp only [bne_self_eq_false, Bool.false_eq_true, if_false] | wp_step)
  exact hq
theorem newK (F : ExcBaseFacts B newId initId tl) (ht : Tail tl bm) {rest : List Value} {kw : List (Str × Value)} (hC : h.get? C = some (excClassObj nm q C N bs bm hdct sn sub ab col dd k0 k1 k2 k3 k5 newId))
    (hq : R (.ok (.ret (.ref (h.objs.size + 1)))) ⟨(h.push { cls := .type "tuple", data := .seq rest.toArray }).push { cls := .ref C, data := .fields #[.ref h.objs.size, .none, .none, .none, .bool false, .none] }, g, d, t, os⟩)
    (hrest : rest.length ≤ sizeLine) : codeAny (model prog w) A (.builtin newId ⟨.ref C :: rest, kw⟩) R ⟨h, g, d, t, os⟩ := by
  have ends := F.ends
  have hasB : (Value.ref C :: bm).contains (.type B) = true := by rw [(ht.cons C).contains, F.hasB]
  have noA : (Value.ref C :: bm).contains (.type "AttributeError") = false := by rw [(ht.cons C).contains, F.noAttr]
  have noN : (Value.ref C :: bm).contains (.type "NameError") = false := by rw [(ht.cons C).contains, F.noName]
  refine codeAny_builtinAt F.entry ?_
  unfold Builtin.«BaseException.__new__»
  refine PySem.wpAt_bind ?_
  show PySem.wpAt _ _ _ (stack >>= _) _ _ _
  refine PySem.wpAt_bind (PySem.wpAt_stack fun p below => PySem.wpAt_of_wpAny ?_)
  wp_walk
  refine PySem.wpAt_of_wpAny ?_
  rw [F.owner]
  repeat (first | with_reducible refine wpAny_madeHere_exc F.canon hC ?_ | with_reducible refine wpAny_loadPart_at hC ?_
                     | (with_reducible refine wpAny_isSubtype_exc hC ?_; first | rw [hasB] | rw [noA] | rw [noN]) | wp_step)
  show R _ _
  rw [Heap.size_push]
  exact hq
theorem typeCallK (F : ExcBaseFacts B newId initId tl) (ht : Tail tl bm) {rest : List Value} {kw : List (Str × Value)} {fI : Addr} {Q : Fin → Shared → Prop} (hC : h.get? C = some (excClassObj nm q C N bs bm hdct sn sub ab col dd k0 k1 k2 k3 k5 newId))
    (hi : W.Looks (model prog w) h (typeLookup (.ref C) "__init__") (some (.ref fI))) (hb : ∀ self, W.Looks (model prog w) h (bindSpecial (.ref fI) self) (.ref fI, [self]))
    (hrest : rest.length ≤ sizeLine) (hone : rest.length = 1 ∨ kw ≠ [] ∨ True)
    (hq : codeAny (model prog w) A (.call (.ref fI) ⟨.ref (h.objs.size + 1) :: rest, kw⟩)
      (fun r s' => match r with | .ok (.ret v) => v = .none ∧ Q (.done (.ret (.ref (h.objs.size + 1)))) s' | .ok _ => False | .error e => E e s') ⟨(h.push (W.kdv_tup rest)).push (excO C h.objs.size), g, d, t, os⟩) :
    wpAny (model prog w) A (Builtin.«type.__call__» ⟨.ref C :: rest, kw⟩) Q E ⟨h, g, d, t, os⟩ := by
  repeat (first | with_reducible refine wpAny_loadPart_at hC ?_ | with_reducible refine wpAny_madeBy_exc hC ?_ | wp_step)
  refine codeAny_call_builtin_code (Code.quiet_builtin _ F.quiet) (checkK F ht hC ?_)
  refine newK F ht hC ?_ hrest
  show wpAny _ _ _ _ _ _
  have k : ∀ b o, h.get? b = some o → ((h.push (W.kdv_tup rest)).push (excO C h.objs.size)).get? b = some o := fun b o e => Heap.get?_push_of_some _ (Heap.get?_push_of_some _ e)
  have hC2 := k _ _ hC
  have there : ((h.push (W.kdv_tup rest)).push (excO C h.objs.size)).get? (h.objs.size + 1) = some (excO C h.objs.size) := by heap_get
  have own : (Value.ref C :: bm).contains (.ref C) = true := by simp
  have i2 := hi.keeps k
  have b2 := (hb (.ref (h.objs.size + 1))).keeps k
  unfold isInstance
  repeat (first | with_reducible refine wpAny_loadPart_at there ?_ | (with_reducible refine wpAny_isSubtype_exc hC2 ?_; rw [own]) | wp_step)
  show wpAny _ _ (typeLookup (.ref C) _) _ _ _
  refine i2.at ?_
  refine wpAny_holding (wpAny_bind (b2.at ?_))
  refine wpAny_bind (wpAny_call (codeAny_mono hq fun r s' z => ?_))
  rcases r with e | (v | _ | _ | _) <;> first | exact z | exact z.elim | skip
  obtain ⟨rfl, z⟩ := z
  first
    | exact wpAny_pure (wpAny_pure z)
    | (wp_walk; exact z)
end
end DL
set_option Elab.async false
set_option linter.all false
set_option maxRecDepth 100000
set_option maxHeartbeats 2000000
namespace DL
open PySem PySem.W PySem.Calls PyProof.Rows PySem.HandSPX L2
section
variable {prog : Program} {w : World} {A : Around} {E : Value → Shared → Prop} {R : Result → Shared → Prop} {h : Heap} {g : Array GenState} {d : Drawn} {t : Nat} {os : OsState}
variable {nm q : Str} {C N : Addr} {bs bm tl : List Value} {hdct : Bool} {sn : List Str} {sub : List Value} {ab : Bool} {col : Option Bool} {dd : Option Addr} {k0 k1 k2 k3 k5 : Option Value} {B newId initId : String}
theorem checkTK {rest : List Value} {kw : List (Str × Value)} {Q : Unit → Shared → Prop} (hC : h.get? C = some (excClassObj nm q C N bs bm hdct sn sub ab col dd k0 k1 k2 k3 k5 newId))
    (hq : Q () ⟨h, g, d, t, os⟩) : wpAny (model prog w) A (checkBuiltinCall "type.__call__" ⟨.ref C :: rest, kw⟩) Q E ⟨h, g, d, t, os⟩ := by
  have z3 := tc_sub
  have zT : (⟨h, g, d, t, os⟩ : Shared).TypeIs (.ref C) "type" := ⟨_, hC, rfl⟩
  simp only [checkBuiltinCall, tc_kind, tc_split]
  repeat (any_goals (first | assumption | with_reducible refine wpAny_loadPart_at hC ?_ | with_reducible refine wpAny_onRaise ?_
                           | with_reducible refine wpAny_map ?_ | wp_step))
theorem callK (F : ExcBaseFacts B newId initId tl) (ht : Tail tl bm) {rest : List Value} {kw : List (Str × Value)} {fI : Addr} (hC : h.get? C = some (excClassObj nm q C N bs bm hdct sn sub ab col dd k0 k1 k2 k3 k5 newId))
    (hi : W.Looks (model prog w) h (typeLookup (.ref C) "__init__") (some (.ref fI))) (hb : ∀ self, W.Looks (model prog w) h (bindSpecial (.ref fI) self) (.ref fI, [self]))
    (hrest : rest.length ≤ sizeLine)
    (hq : codeAny (model prog w) (A.under (.builtin "type.__call__" ⟨.ref C :: rest, kw⟩)) (.call (.ref fI) ⟨.ref (h.objs.size + 1) :: rest, kw⟩)
      (W.InitBack (h.objs.size + 1) R) ⟨(h.push (W.kdv_tup rest)).push (excO C h.objs.size), g, d, t, os⟩) : codeAny (model prog w) A (.call (.ref C) ⟨rest, kw⟩) R ⟨h, g, d, t, os⟩ := by
  have z1 := tc_lookup
  have z2 := tc_bind (.ref C)
  have zT : (⟨h, g, d, t, os⟩ : Shared).TypeIs (.ref C) "type" := ⟨_, hC, rfl⟩
  refine codeAny_of_tree ?_
  show wpAny _ _ (callAny (.ref C) _) _ _ _
  repeat (any_goals (first | assumption | with_reducible refine wpAny_loadPart_at hC ?_
                           | wp_step))
  refine ⟨rfl, ?_⟩
  refine codeAny_call_builtin_at (Code.quiet_builtin _ (by decide +kernel)) entry_typeCall (checkTK hC (typeCallK F ht hC hi hb hrest (.inr (.inr trivial)) ?_))
  refine codeAny_mono hq fun r s' z => ?_
  rcases r with e | (v | _ | _ | _) <;> exact z
end
section
variable {prog : Program} {w : World} {A : Around} {R : Result → Shared → Prop} {s : Shared} {K : Frag} {C fI : Addr} {q f : Str} {tl : List Value} {B newId initId : String}
/-- C(v) or C(f=v): args say how; what __init__ makes of them -/
theorem exc_made (T : ExcT K C fI q f tl B newId initId) (hf : ((f == ("self" : Str)) = false)) (hfd : (f == ("__debug__" : Str)) = false) {rest : List Value} {kw : List (Str × Value)} {v : Value} (KI : K.In s.heap) (hlim : s.heap.NoLimit) (hroom : A.depth + 1 < recursionLimit) (hrest : rest.length ≤ sizeLine)
    (hb : ∀ (s : Shared) (x : Addr) (doc pm : Value) (an : Option Addr) (cdv ct : Value) (p1 p2 q1 q2 q3 q4 : Pos), BindsTo s (fnOf "__init__" q (eA f p1 p2) (eB f q1 q2 q3 q4) (eS f) .none .none doc pm an cdv ct) ⟨.ref x :: rest, kw⟩ [("self", .ref x), (f, v)])
    (hq : ∀ h' tk e d t1, MadeE s.heap h' C e d t1 f v → R (.ok (.ret (.ref e))) { s with heap := h', toks := tk }) : codeAny (model prog w) A (.call (.ref C) ⟨rest, kw⟩) R s := by
  obtain ⟨nm, qn, N, bs, bm, sn, sub, ab, col, dd, k0, k1, k2, k3, k5, hC, hbm⟩ := T.cls
  obtain ⟨hp, g, dr, tk, os⟩ := s
  have kk : ∀ b o, hp.get? b = some o → ((hp.push (kdv_tup rest)).push (excO C hp.objs.size)).get? b = some o := fun b o e => Heap.get?_push_of_some _ (Heap.get?_push_of_some _ e)
  have at1 : ((hp.push (kdv_tup rest)).push (excO C hp.objs.size)).get? (hp.objs.size + 1) = some (excO C hp.objs.size) := by heap_get
  refine callK T.base (tail_of hbm) (KI _ _ hC) (looks_findIn KI T.iC) (fun self => bind_fn KI self T.tC) hrest ?_
  refine init_run (s := ⟨(hp.push (kdv_tup rest)).push (excO C hp.objs.size), g, dr, tk, os⟩) T hf hfd (KI.keeps kk) (hlim.keeps kk) at1 ?_ (fun doc pm an cdv ct p1 p2 q1 q2 q3 q4 => hb _ _ doc pm an cdv ct p1 p2 q1 q2 q3 q4) fun h' tk' dx k' dn dne hx hns => ?_
  · show A.depth + 1 < recursionLimit
    exact hroom
  · have old : ∀ b o, hp.get? b = some o → h'.get? b = some o := fun b o e => k' b o (Nat.ne_of_lt (Nat.lt_succ_of_lt (Heap.lt_size e))) (kk b o e)
    have z : hp.objs.size + 1 + 1 ≤ dx := by
      have y := dn
      simp only [Heap.size_push] at y
      exact y
    exact ⟨rfl, hq h' tk' (hp.objs.size + 1) dx _ ⟨old, Nat.le_succ _, hx, Nat.le_trans (Nat.le_trans (Nat.le_succ _) (Nat.le_succ _)) z, dne, hns⟩⟩
end
/-- two new things laid at once -/
theorem Inv.laid2 {X : Cx} {pins : List (Addr × Obj)} {σ : L2.St} {H : Hp} {s : Shared} {h' : Heap} {a d : Addr} {o u : HO} {t' : Nat} (I : Inv X pins σ H s) (k : ∀ b v, s.heap.get? b = some v → h'.get? b = some v) (ha : s.heap.objs.size ≤ a) (hd : s.heap.objs.size ≤ d) (hne : d ≠ a)
    (na : ObjOk X.prog X.w (upd (upd H d u) a o) h' a o) (nd : ObjOk X.prog X.w (upd (upd H d u) a o) h' d u) : Inv X pins σ (upd (upd H d u) a o) { s with heap := h', toks := t' } := by
  have fa : H a = none := I.hok.fresh ha
  have fd : H d = none := I.hok.fresh hd
  have old : ∀ {b : Addr} {v : Obj}, s.heap.get? b = some v → b ≠ a ∧ b ≠ d := fun {b v} e => by
    have := Heap.lt_size e
    exact ⟨fun z => by rw [z] at this; exact absurd this (Nat.not_lt.mpr ha), fun z => by rw [z] at this; exact absurd this (Nat.not_lt.mpr hd)⟩
  have ne : ∀ {b : Addr} {v : HO}, H b = some v → b ≠ a ∧ b ≠ d := fun {b v} e => ⟨fun z => (by rw [z, fa] at e; cases e), fun z => (by rw [z, fd] at e; cases e)⟩
  have same : ∀ {b : Addr} {v : HO}, H b = some v → upd (upd H d u) a o b = some v := fun {b v} e => by rw [upd_ne (ne e).1, upd_ne (ne e).2]; exact e
  refine I.un ⟨fun b v e _ _ _ => k b v e, fun b v e _ _ _ => ⟨v.slots, k b v e⟩, fun b v e n _ => by rw [upd_ne (old e).1, upd_ne (old e).2]; exact n, fun b v e _ => ⟨v, k b v e⟩, fun b xs e => same e, fun b v x e => same e, fun b ps e => ⟨#[], by rw [same e]; simp⟩⟩ fun b v e => ?_
  by_cases h1 : b = a
  · subst h1
    rw [upd_same] at e; cases e
    exact na
  · rw [upd_ne h1] at e
    by_cases h2 : b = d
    · subst h2
      rw [upd_same] at e; cases e
      exact nd
    · rw [upd_ne h2] at e
      exact (I.hok b v e).stay (fun c x _ y => k c x y) (fun c hc => same hc) (fun c xs hc => same hc)
section
variable {X : Cx} {C fI : Addr} {q f x : Str} {tl : List Value} {B newId initId : String} {e : Expr} {es : List Expr} {ta tk : TA} {p pos : Pos} {kws : List Keyword} {k : Nat}
/-- an exception, new at a, with its dict at d -/
def tMkE (C : Addr) (f : Str) (ta : TA) : TE := fun σ H Q => ta σ H fun vs H1 => ∃ v, vs = [v] ∧ ∀ a d, H1 a = none → H1 d = none → d ≠ a → Q (.ref a) (upd (upd H1 d (exd d [(f, v)])) a (exo a C (some d)))
theorem relO1 {v : V} {u : Value} (r : RelV v u) (y : Str) : RelO (List.lookup y [(f, v)]) (if y = f then some u else none) := by
  by_cases h : y = f
  · subst h
    simp [List.lookup, RelO, r]
  · have h' : (y == f) = false := by simpa using h
    simp [List.lookup, h, h', RelO]
theorem made_inv {pins : List (Addr × Obj)} {σ : L2.St} {H : Hp} {s : Shared} {Q : VK} {v : V} {u : Value} {h' : Heap} {tk : Nat} {a d t1 : Addr} (I : Inv X pins σ H s) (r : RelV v u) (M : MadeE s.heap h' C a d t1 f u)
    (k : ∀ a d, H a = none → H d = none → d ≠ a → Q (.ref a) (upd (upd H d (exd d [(f, v)])) a (exo a C (some d)))) : EP X pins σ Q (.ref a) { s with heap := h', toks := tk } :=
  ⟨.ref a, _, Inv.laid2 I M.keep M.new M.dbig M.dne (exo_ok M.obj) (exd_ok M.ns (relO1 r)), rfl, k a d (I.hok.fresh M.new) (I.hok.fresh M.dbig) M.dne⟩
theorem pe_mkE (T : ExcT X.K C fI q f tl B newId initId) (hr : Room 1 X.A) (hg : Gl X x) (hm : X.mg x = some (.ref C)) (ha : PA X [e] ta)
    (hb : ∀ (s : Shared) (x : Addr) (v doc pm : Value) (an : Option Addr) (cdv ct : Value) (p1 p2 q1 q2 q3 q4 : Pos), BindsTo s (fnOf "__init__" q (eA f p1 p2) (eB f q1 q2 q3 q4) (eS f) .none .none doc pm an cdv ct) ⟨[.ref x, v], []⟩ [("self", .ref x), (f, v)] := by intros; exact .of_eq (by rfl))
    (hf : (f == ("self" : Str)) = false := by decide) (hfd : (f == ("__debug__" : Str)) = false := by decide) (hdb : (x == ("__debug__" : Str)) = false := by decide)
    (he : starEach [e] X.env = [(false, eval e X.env)] := by rfl) (hpl : (backTo pos (starEach [] X.env)).any (·.1) = false := by rfl) : PE X (.Call (.Name x p) [e] [] pos) (tMkE C f ta) := by
  refine ⟨fun pins s σ H Q I h => ?_⟩
  refine wpAny_Call_Name_kw (ld_glob I hg hm ?_ hdb)
  refine PySem.W.callWith_K (h₀ := X.base) I.ok.mod.kin T.kC (thn (ha.run pos pins s σ H _ I h) fun us s1 hh => ?_) he hpl
  obtain ⟨vs, H1, I1, r1, v, rfl, q1⟩ := hh
  refine ⟨I1.kIn, ?_⟩
  cases r1 with
  | cons rv rn =>
    cases rn
    show wpAny _ _ (call (.ref C) [_]) _ _ _
    exact wpAny_call (exc_made T hf hfd I1.kIn I1.nolimit (by have := hr.dp; omega) (by rw [sizeLine_eq]; exact (by decide : 1 ≤ 16777216)) (fun s x doc pm an cdv ct p1 p2 q1 q2 q3 q4 => hb s x _ doc pm an cdv ct p1 p2 q1 q2 q3 q4) fun h' tk e d t1 M => made_inv I1 rv M q1)
theorem pe_mkEK {kpos : Pos} (T : ExcT X.K C fI q f tl B newId initId) (hr : Room 1 X.A) (hg : Gl X x) (hm : X.mg x = some (.ref C)) (hkw : PK X [⟨some f, e, kpos⟩] tk)
    (hb : ∀ (s : Shared) (x : Addr) (v doc pm : Value) (an : Option Addr) (cdv ct : Value) (p1 p2 q1 q2 q3 q4 : Pos), BindsTo s (fnOf "__init__" q (eA f p1 p2) (eB f q1 q2 q3 q4) (eS f) .none .none doc pm an cdv ct) ⟨[.ref x], [(f, v)]⟩ [("self", .ref x), (f, v)] := by intros; exact .of_eq (by rfl))
    (hf : (f == ("self" : Str)) = false := by decide) (hfd : (f == ("__debug__" : Str)) = false := by decide) (hdb : (x == ("__debug__" : Str)) = false := by decide)
    (hall : (backToKw pos (keywordEach [⟨some f, e, kpos⟩] X.env)).all (·.1.isSome) = true := by rfl) (hks : (backToKw pos (keywordEach [⟨some f, e, kpos⟩] X.env)).filterMap (·.1) = [f] := by rfl)
    (hpl : ((backTo pos (starEach [] X.env)).any (·.1) || (backToKw pos (keywordEach [⟨some f, e, kpos⟩] X.env)).any (·.1.isNone)) = false := by rfl) :
    PE X (.Call (.Name x p) [] [⟨some f, e, kpos⟩] pos) (tMkE C f tk) := by
  refine ⟨fun pins s σ H Q I h => ?_⟩
  refine wpAny_Call_Name_kw (ld_glob I hg hm ?_ hdb)
  refine PySem.W.callWith_KW0 (h₀ := X.base) I.ok.mod.kin T.kC hall ?_ hpl
  refine thn (hkw.run pos pins s σ H _ I h) fun ws s1 hh => ?_
  obtain ⟨vs, H1, I1, r1, v, rfl, q1⟩ := hh
  refine ⟨I1.kIn, ?_⟩
  rw [hks]
  cases r1 with
  | cons rv rn =>
    cases rn
    show wpAny _ _ (call (.ref C) [] [(f, _)]) _ _ _
    exact wpAny_call (exc_made T hf hfd I1.kIn I1.nolimit (by have := hr.dp; omega) (by rw [sizeLine_eq]; exact (by decide : 0 ≤ 16777216)) (fun s x doc pm an cdv ct p1 p2 q1 q2 q3 q4 => hb s x _ doc pm an cdv ct p1 p2 q1 q2 q3 q4) fun h' tk e d t1 M => made_inv I1 rv M q1)
end
end DL
set_option Elab.async false
set_option linter.all false
set_option maxRecDepth 100000
set_option maxHeartbeats 2000000
/-! RPR: repr of nested data with empty dicts among it. -/
namespace DL
open PySem
mutual
inductive RdS (h : Heap) : Value → PyData → Prop
  | none : RdS h .none .none
  | bool (b : Bool) : RdS h (.bool b) (.bool b)
  | int (i : Int) (t : Tok) : RdS h (.int i t) (.int i)
  | str (x : Str) (t : Tok) : RdS h (.str x t) (.str x)
  | list {a : Addr} {o : Obj} {vs : Array Value} {n : Nat} {xs : List PyData} : h.get? a = some o → o.cls = .type "list" → o.data = .seq vs n → RdSA h vs.toList xs → RdS h (.ref a) (.list xs)
  | tuple {a : Addr} {o : Obj} {vs : Array Value} {n : Nat} {xs : List PyData} : h.get? a = some o → o.cls = .type "tuple" → o.data = .seq vs n → RdSA h vs.toList xs → RdS h (.ref a) (.tuple xs)
  | edict {a : Addr} {o : Obj} {es : Array DictEntry} {n : Nat} : h.get? a = some o → o.cls = .type "dict" → o.data = .dict es n → es.toList = [] → (a == sysModules) = false → RdS h (.ref a) (.dict [])
inductive RdSA (h : Heap) : List Value → List PyData → Prop
  | nil : RdSA h [] []
  | cons {v : Value} {vs : List Value} {d : PyData} {ds : List PyData} : RdS h v d → RdSA h vs ds → RdSA h (v :: vs) (d :: ds)
end
mutual
theorem RdS.reads {h : Heap} : ∀ {v : Value} {d : PyData}, RdS h v d → ∃ as, Reads h v d as
  | _, _, .none => ⟨_, .none⟩
  | _, _, .bool b => ⟨_, .bool b⟩
  | _, _, .int i t => ⟨_, .int i t⟩
  | _, _, .str x t => ⟨_, .str x t⟩
  | _, _, .list h1 h2 h3 h4 => let ⟨as, r⟩ := RdSA.reads h4; ⟨_, .list h1 h2 h3 r⟩
  | _, _, .tuple h1 h2 h3 h4 => let ⟨as, r⟩ := RdSA.reads h4; ⟨_, .tuple h1 h2 h3 r⟩
  | _, _, .edict h1 h2 h3 h4 _ => ⟨_, .dict (as := []) (bs := []) h1 h2 h3 (by rw [h4]; exact .nil) (by rw [h4]; exact .nil)⟩
theorem RdSA.reads {h : Heap} : ∀ {vs : List Value} {ds : List PyData}, RdSA h vs ds → ∃ as, ReadsAll h vs ds as
  | _, _, .nil => ⟨_, .nil⟩
  | _, _, .cons r s => let ⟨as, q⟩ := RdS.reads r; let ⟨bs, q2⟩ := RdSA.reads s; ⟨_, .cons q q2⟩
end
section
variable {prog : Program} {w : World} {h : Heap}
mutual
theorem RdS.repr : ∀ {v : Value} {d : PyData}, RdS h v d → d.showable = true → d.shown.length ≤ sizeLine → ∃ bs, ReadAtMost h d.depth bs ∧ ReprK prog w bs h d.depth v d.shown
  | _, _, .none, _, _ => ⟨[], nofun, by simp only [PyData.shown]; exact .of_is ReprIs.none _ _ _⟩
  | _, _, .bool b, _, _ => ⟨[], nofun, by simp only [PyData.shown]; exact .of_is (ReprIs.bool b) _ _ _⟩
  | _, _, .int i t, hs, _ => ⟨[], nofun, by simp only [PyData.shown]; exact .of_is (ReprIs.int t (by simpa [PyData.showable] using hs)) _ _ _⟩
  | _, _, .str x t, _, hz => ⟨[], nofun, by simp only [PyData.shown]; exact .of_is (ReprIs.str x t (by simpa only [PyData.shown] using hz)) _ _ _⟩
  | _, _, .list (a := a) (vs := vs) (xs := xs) h1 h2 h3 h4, hs, hz => by
    have small : (listText (PyData.shownAll xs)).length ≤ sizeLine := by simpa only [PyData.shown] using hz
    obtain ⟨bs, hb, hk⟩ := RdSA.repr h4 (by simpa [PyData.showable] using hs) (fun t ht => Nat.le_trans (listText_mem_le ht) small)
    obtain ⟨as, r⟩ := RdS.reads (RdS.list h1 h2 h3 h4)
    have out : a ∉ bs := not_mem_of_deeper r (by simp only [PyData.depth]; omega) hb
    refine ⟨a :: bs, ReadAtMost.cons r (by simp only [PyData.depth]; omega) hb, ?_⟩
    simp only [PyData.depth, PyData.shown]
    obtain ⟨l⟩ := vs
    cases l with
    | nil =>
      have e4 : RdSA h [] xs := h4
      cases e4
      simp only [PyData.shownAll, listText_nil]
      exact ReprK.listEmpty h1 h2 h3
    | cons x l => exact ReprK.list h1 h2 h3 out (by simpa using hk.length_eq) (fun i y e => hk.item i y (by simpa using e))
  | _, _, .tuple (a := a) (xs := xs) h1 h2 h3 h4, hs, hz => by
    have small : (tupleText (PyData.shownAll xs)).length ≤ sizeLine := by simpa only [PyData.shown] using hz
    obtain ⟨bs, hb, hk⟩ := RdSA.repr h4 (by simpa [PyData.showable] using hs) (fun t ht => Nat.le_trans (tupleText_mem_le ht) small)
    obtain ⟨as, r⟩ := RdS.reads (RdS.tuple h1 h2 h3 h4)
    have out : a ∉ bs := not_mem_of_deeper r (by simp only [PyData.depth]; omega) hb
    refine ⟨a :: bs, ReadAtMost.cons r (by simp only [PyData.depth]; omega) hb, ?_⟩
    simp only [PyData.depth, PyData.shown]
    exact ReprK.tuple h1 h2 h3 out hk
  | _, _, .edict (a := a) h1 h2 h3 h4 h5, hs, hz => by
    obtain ⟨as, r⟩ := RdS.reads (RdS.edict h1 h2 h3 h4 h5)
    have hb : ReadAtMost h 0 [] := nofun
    refine ⟨[a], ReadAtMost.cons r (by omega) hb, ?_⟩
    have z := ReprK.dict (prog := prog) (w := w) (as := []) (d := 0) (ps := []) h1 h2 h3 h5 (by simp) (by rw [h4]; exact .nil)
    simp only [PyData.shown, PyData.shownKv]
    exact z.level_le (by simp only [PyData.depth]; omega)
theorem RdSA.repr : ∀ {vs : List Value} {ds : List PyData}, RdSA h vs ds → PyData.showableAll ds = true → (∀ t ∈ PyData.shownAll ds, t.length ≤ sizeLine) → ∃ bs, ReadAtMost h (PyData.depthAll ds) bs ∧ ReprAllK prog w bs h (PyData.depthAll ds) vs (PyData.shownAll ds)
  | _, _, .nil, _, _ => ⟨[], nofun, .nil⟩
  | _, _, .cons r s, hs, hz => by
    simp only [PyData.showableAll, Bool.and_eq_true] at hs
    obtain ⟨b1, h1, k1⟩ := RdS.repr r hs.1 (hz _ (by simp [PyData.shownAll]))
    obtain ⟨b2, h2, k2⟩ := RdSA.repr s hs.2 (fun t ht => hz t (by simp [PyData.shownAll, ht]))
    refine ⟨b1 ++ b2, (h1.mono (by simp only [PyData.depthAll]; omega)).append (h2.mono (by simp only [PyData.depthAll]; omega)), ?_⟩
    exact .cons ((k1.more (fun b hb => List.mem_append_left _ hb)).level_le (by simp only [PyData.depthAll]; omega)) (k2.more_le (fun b hb => List.mem_append_right _ hb) (by simp only [PyData.depthAll]; omega))
end
end
theorem repr_list {prog : Program} {w : World} {A : Around} {E : Value → Shared → Prop} {s : Shared} {Q : Value → Shared → Prop} {a : Addr} {xs : List PyData} (r : RdS s.heap (.ref a) (.list xs)) (hs : (PyData.list xs).showable = true) (hz : (PyData.list xs).shown.length ≤ sizeLine)
    (hg : A.guards = some []) (hu : A.units + 100 < cLine) (hd : (PyData.list xs).depth ≤ 90)
    (hQ : ∀ h' u tk, (∀ b o, s.heap.get? b = some o → h'.get? b = some o) → Q (.str (PyData.list xs).shown u) { s with heap := h', toks := tk }) : wpAny (model prog w) A (call (.builtin "repr") [.ref a]) Q E s := by
  cases r with
  | list h1 h2 h3 h4 =>
    rename_i o vs n
    have small : (listText (PyData.shownAll xs)).length ≤ sizeLine := by simpa only [PyData.shown] using hz
    obtain ⟨bs, hb, hk⟩ := RdSA.repr (prog := prog) (w := w) h4 (by simpa [PyData.showable] using hs) (fun t ht => Nat.le_trans (listText_mem_le ht) small)
    obtain ⟨as, r⟩ := RdS.reads (RdS.list h1 h2 h3 h4)
    have out : a ∉ bs := not_mem_of_deeper r (by simp only [PyData.depth]; omega) hb
    refine call_repr_slot (by omega) ⟨o, h1, h2⟩ F.slot_list_repr.toG ?_
    simp only [PyData.depth] at hd
    simp only [PyData.shown] at hQ
    obtain ⟨l⟩ := vs
    cases l with
    | nil =>
      have e4 : RdSA s.heap [] xs := h4
      cases e4
      simp only [PyData.shownAll, listText_nil] at hQ
      exact call_list_repr_empty ⟨o, h1, h2⟩ h1 h3 ⟨_, _, rfl, hQ s.heap _ _ fun _ _ e => e⟩
    | cons x l =>
      exact call_list_reprK h1 h2 h3 out (by simpa using hk.length_eq) (fun i y e => hk.item i y (by simpa using e)) hg (fun b _ => Clear.nil b) (by show A.units + 1 + (PyData.depthAll xs + 1) < cLine; omega) (fun _ _ e => e) (fun h' u tk k => ⟨_, _, rfl, hQ h' u tk k⟩) small
end DL
set_option Elab.async false
set_option linter.all false
set_option maxRecDepth 100000
set_option maxHeartbeats 2000000
/-! EXI: e.f, isinstance, C() of such classes; repr; ==, != of data; counts; defs with the guards told. -/
namespace DL
open PySem PySem.W PySem.Calls PyProof.Rows PySem.HandSPX L2

/-! ### plain data -/
mutual
def pyd : D → PyData
  | .bl b => .bool b
  | .int i => .int i
  | .str s => .str s
  | .tup ds => .tuple (pydL ds)
  | .lst ds => .list (pydL ds)
  | .rol ds => .list (pydL ds)
  | .dct _ _ => .dict []
  | _ => .none
def pydL : List D → List PyData
  | [] => []
  | d :: ds => pyd d :: pydL ds
end
mutual
/-- None, bools, ints, texts, tuples, lists of such (e: and empty dicts) -/
def plain (e : Bool) : D → Bool
  | .non => true
  | .bl _ => true
  | .int _ => true
  | .str _ => true
  | .tup ds => plainL e ds
  | .lst ds => plainL e ds
  | .rol ds => plainL e ds
  | .dct ks ds => e && ks.isEmpty && ds.isEmpty
  | _ => false
def plainL (e : Bool) : List D → Bool
  | [] => true
  | d :: ds => plain e d && plainL e ds
end
mutual
inductive RdV (K : PySem.W.Frag) (H : Hp) : V → PyData → Prop
  | non : RdV K H .non .none
  | bl (b : Bool) : RdV K H (.bl b) (.bool b)
  | int (i : Int) : RdV K H (.int i) (.int i)
  | str (x : Str) : RdV K H (.str x) (.str x)
  | lst {a : Addr} {xs : List V} {ds : List PyData} : SqL K H a xs → RdVA K H xs ds → RdV K H (.ref a) (.list ds)
  | tup {a : Addr} {xs : List V} {ds : List PyData} : SqT K H a xs → RdVA K H xs ds → RdV K H (.ref a) (.tuple ds)
  | ed {a : Addr} : H a = some (.dK []) → RdV K H (.ref a) (.dict [])
inductive RdVA (K : PySem.W.Frag) (H : Hp) : List V → List PyData → Prop
  | nil : RdVA K H [] []
  | cons {v : V} {vs : List V} {d : PyData} {ds : List PyData} : RdV K H v d → RdVA K H vs ds → RdVA K H (v :: vs) (d :: ds)
end
section
variable {K : PySem.W.Frag} {I H : Hp} {θ : List Addr}
mutual
theorem Rep.rdv (ex : Ex I H) : ∀ {d : D} {v : V}, Rep K I θ d v → plain true d = true → RdV K H v (pyd d)
  | .non, v, h, p => by unfold Rep at h; subst h; exact .non
  | .bl b, v, h, p => by unfold Rep at h; subst h; exact .bl b
  | .int i, v, h, p => by unfold Rep at h; subst h; exact .int i
  | .str s, v, h, p => by unfold Rep at h; subst h; exact .str s
  | .tup ds, v, h, p => by unfold Rep at h; unfold plain at p; obtain ⟨a, vs, rfl, h1, h2⟩ := h; exact .tup (sqt_ex ex h1) (RepL.rdv ex h2 p)
  | .lst ds, v, h, p => by unfold Rep at h; unfold plain at p; obtain ⟨a, vs, rfl, h1, h2⟩ := h; exact .lst (SqL.of (ex _ _ h1)) (RepL.rdv ex h2 p)
  | .rol ds, v, h, p => by unfold Rep at h; unfold plain at p; obtain ⟨a, vs, rfl, h1, h2⟩ := h; exact .lst (sql_ex ex h1) (RepL.rdv ex h2 p)
  | .dct ks ds, v, h, p => by
    unfold Rep at h; unfold plain at p; obtain ⟨a, vs, rfl, h1, h2, h3⟩ := h
    simp at p
    obtain ⟨rfl, rfl⟩ := p
    exact .ed (ex _ _ (by simpa using h1))
  | .ins C ns ds, v, h, p => by unfold plain at p; cases p
  | .exc C ns ds, v, h, p => by unfold plain at p; cases p
  | .exc0 C, v, h, p => by unfold plain at p; cases p
  | .cell j, v, h, p => by unfold plain at p; cases p
  | .obj a, v, h, p => by unfold plain at p; cases p
  | .ty n, v, h, p => by unfold plain at p; cases p
theorem RepL.rdv (ex : Ex I H) : ∀ {ds : List D} {vs : List V}, RepL K I θ ds vs → plainL true ds = true → RdVA K H vs (pydL ds)
  | [], vs, h, p => by unfold RepL at h; subst h; exact .nil
  | d :: ds, vs, h, p => by
    unfold RepL at h; unfold plainL at p
    obtain ⟨v, vs', rfl, h1, h2⟩ := h
    rw [Bool.and_eq_true] at p
    exact .cons (Rep.rdv ex h1 p.1) (RepL.rdv ex h2 p.2)
end
mutual
theorem Rep.dp (ex : Ex I H) : ∀ {d : D} {v : V}, Rep K I θ d v → plain false d = true → Dp K H v (pyd d)
  | .non, v, h, p => by unfold Rep at h; subst h; exact .non
  | .bl b, v, h, p => by unfold Rep at h; subst h; exact .bl b
  | .int i, v, h, p => by unfold Rep at h; subst h; exact .int i
  | .str s, v, h, p => by unfold Rep at h; subst h; exact .str s
  | .tup ds, v, h, p => by unfold Rep at h; unfold plain at p; obtain ⟨a, vs, rfl, h1, h2⟩ := h; exact .tup (sqt_ex ex h1) (RepL.dp ex h2 p)
  | .lst ds, v, h, p => by unfold Rep at h; unfold plain at p; obtain ⟨a, vs, rfl, h1, h2⟩ := h; exact .lst (SqL.of (ex _ _ h1)) (RepL.dp ex h2 p)
  | .rol ds, v, h, p => by unfold Rep at h; unfold plain at p; obtain ⟨a, vs, rfl, h1, h2⟩ := h; exact .lst (sql_ex ex h1) (RepL.dp ex h2 p)
  | .dct ks ds, v, h, p => by unfold plain at p; cases p
  | .ins C ns ds, v, h, p => by unfold plain at p; cases p
  | .exc C ns ds, v, h, p => by unfold plain at p; cases p
  | .exc0 C, v, h, p => by unfold plain at p; cases p
  | .cell j, v, h, p => by unfold plain at p; cases p
  | .obj a, v, h, p => by unfold plain at p; cases p
  | .ty n, v, h, p => by unfold plain at p; cases p
theorem RepL.dp (ex : Ex I H) : ∀ {ds : List D} {vs : List V}, RepL K I θ ds vs → plainL false ds = true → DpAll K H vs (pydL ds)
  | [], vs, h, p => by unfold RepL at h; subst h; exact .nil
  | d :: ds, vs, h, p => by
    unfold RepL at h; unfold plainL at p
    obtain ⟨v, vs', rfl, h1, h2⟩ := h
    rw [Bool.and_eq_true] at p
    exact .cons (Rep.dp ex h1 p.1) (RepL.dp ex h2 p.2)
end
end
section
variable {X : Cx} {pins : List (Addr × Obj)} {σ : L2.St} {H : Hp} {s : Shared}
mutual
theorem RdV.rds (I : Inv X pins σ H s) : ∀ (d : PyData) (v : V) (u : Value), RdV X.K H v d → RelV v u → RdS s.heap u d
  | .none, _, _, h, r => by cases h; cases r; exact .none
  | .bool b, _, _, h, r => by cases h; cases r; exact .bool b
  | .int i, _, _, h, r => by cases h; obtain ⟨t, rfl⟩ := r; exact .int i t
  | .str x, _, _, h, r => by cases h; obtain ⟨t, rfl⟩ := r; exact .str x t
  | .list ds, _, _, h, r => by
    cases h with
    | lst hs ha =>
      cases r
      obtain ⟨its, rv, ⟨o, n, ho, hc, _, hd⟩, _⟩ := I.list hs
      exact .list ho hc hd (RdVA.rds I ds _ its ha rv)
  | .tuple ds, _, _, h, r => by
    cases h with
    | tup hs ha =>
      cases r
      obtain ⟨its, rv, ⟨o, ho, hc, n, hd⟩, _⟩ := I.tuple hs
      exact .tuple ho hc hd (RdVA.rds I ds _ its ha rv)
  | .dict kvs, _, _, h, r => by
    cases h with
    | ed he =>
      cases r
      obtain ⟨_, hs, vs, kv, o, es, ep, ho, ex, hd, _, hp, _⟩ := I.hok _ _ he
      cases kv
      have hl := hp.length
      have e0 : es.toList = [] := List.eq_nil_of_length_eq_zero (by simpa using hl)
      exact .edict ho ex.1 hd e0 hs
theorem RdVA.rds (I : Inv X pins σ H s) : ∀ (ds : List PyData) (vs : List V) (us : List Value), RdVA X.K H vs ds → Vals vs us → RdSA s.heap us ds
  | [], _, _, h, r => by cases h; cases r; exact .nil
  | d :: ds, _, _, h, r => by
    cases h with
    | cons h1 h2 =>
      cases r with
      | cons r1 r2 => exact .cons (RdV.rds I d _ _ h1 r1) (RdVA.rds I ds _ _ h2 r2)
end
end
/-! ### repr, ==, != -/
/-- repr of a list of plain data -/
def rRepr (K : PySem.W.Frag) : List V → Hp → VK → Prop := fun xs H Q => ∃ (v : V) (ds : List PyData), xs = [v] ∧ RdV K H v (.list ds) ∧ (PyData.list ds).showable = true ∧ (PyData.list ds).shown.length ≤ sizeLine ∧ (PyData.list ds).depth ≤ 90 ∧ Q (.str (PyData.list ds).shown) H
theorem call_reprL {X : Cx} (hg : X.A.guards = some []) (hu : X.A.units + 100 < cLine) : CallR X (.builtin "repr") (rRepr X.K) := by
  intro pins s σ H xs us Q I r h
  obtain ⟨v, ds, rfl, rd, hs, hz, hd, q⟩ := h
  obtain ⟨u, rfl, ru⟩ := vals1 r
  have z := RdV.rds I _ _ _ rd ru
  cases rd with
  | lst h1 h2 =>
    cases ru
    exact repr_list z hs hz hg hu hd fun h' u tk k => ⟨.str _, H, I.kept k, ⟨_, rfl⟩, q⟩
def gRepr : GA := fun ds c Q _ => match ds with
  | [.lst xs] => plainL true xs = true ∧ (PyData.list (pydL xs)).showable = true ∧ (PyData.list (pydL xs)).shown.length ≤ sizeLine ∧ (PyData.list (pydL xs)).depth ≤ 90 ∧ Q (.str (PyData.list (pydL xs)).shown) c
  | _ => False
theorem gRepr_ok {K : PySem.W.Frag} : SndA K (rRepr K) gRepr := ⟨fun I H θ c ds vs Q Xp o r k => by
  unfold gRepr at k
  split at k
  · rename_i xs
    unfold RepL at r
    obtain ⟨v, vs', rfl, r1, r2⟩ := r
    unfold RepL at r2
    subst r2
    obtain ⟨k1, k2, k3, k4, k5⟩ := k
    have z := Rep.rdv o.ext r1 (by unfold plain; exact k1)
    unfold pyd at z
    exact ⟨v, _, rfl, z, k2, k3, k4, k5.here o rep_str⟩
  · exact k.elim, fun ds c Q Q' X X' h hx k => by
  unfold gRepr at *
  split at k
  · exact ⟨k.1, k.2.1, k.2.2.1, k.2.2.2.1, h _ _ k.2.2.2.2⟩
  · exact k.elim⟩
/-- a == b of plain data (no dicts) -/
def gEqD : G2 := fun x y c Q _ => plain false x = true ∧ plain false y = true ∧ SeqAt.shaped (pyd x) = true ∧ SeqAt.shaped (pyd y) = true ∧ Q (.bl (PyData.eqv (pyd x) (pyd y))) c
def gNeD : G2 := fun x y c Q _ => plain false x = true ∧ plain false y = true ∧ SeqAt.shaped (pyd x) = true ∧ SeqAt.shaped (pyd y) = true ∧ Q (.bl (!PyData.eqv (pyd x) (pyd y))) c
theorem gEqD_ok {K : PySem.W.Frag} : Snd2 K (rEqD K) gEqD := ⟨fun I H θ c dx dy x y Q Xp o r1 r2 k => ⟨_, _, r1.dp o.ext k.1, r2.dp o.ext k.2.1, k.2.2.1, k.2.2.2.1, k.2.2.2.2.here o rep_bl⟩,
  fun _ _ _ _ _ _ _ h _ k => ⟨k.1, k.2.1, k.2.2.1, k.2.2.2.1, h _ _ k.2.2.2.2⟩⟩
theorem gNeD_ok {K : PySem.W.Frag} : Snd2 K (rNeD K) gNeD := ⟨fun I H θ c dx dy x y Q Xp o r1 r2 k => ⟨_, _, r1.dp o.ext k.1, r2.dp o.ext k.2.1, k.2.2.1, k.2.2.2.1, k.2.2.2.2.here o rep_bl⟩,
  fun _ _ _ _ _ _ _ h _ k => ⟨k.1, k.2.1, k.2.2.1, k.2.2.2.1, h _ _ k.2.2.2.2⟩⟩

/-! ### e.f of such an exception -/
def tFldE (K : PySem.W.Frag) (C : Addr) (f : Str) (te : TE) : TE := fun σ H Q => te σ H fun x H1 => ∃ a d v, x = .ref a ∧ H1 a = some (exo a C (some d)) ∧ H1 d = some (exd d [(f, v)]) ∧ Q v H1
/-- what is asked of the class for a look at an instance -/
structure ExcG (K : Frag) (C : Addr) (f : Str) : Prop where
  ga : findIn K (.ref C) "__getattribute__" = some (some (.builtin "BaseException.__getattribute__"))
  gg : findIn K (.ref C) "__getattr__" = some none
  noN : findIn K (.ref C) f = some none
  exC : subIn K (.ref C) (.type "BaseException") = some true
  hdC : hasDictIn K C = true
theorem ExcT.g {K : Frag} {C fI : Addr} {q f : Str} {tl : List Value} {B newId initId : String} (T : ExcT K C fI q f tl B newId initId) : ExcG K C f := ⟨T.ga, T.gg, T.noN, T.exC, T.hdC⟩
/-- the classes of a list, all with the field f -/
def tFldL (K : PySem.W.Frag) (f : Str) (te : TE) : TE := fun σ H Q => te σ H fun x H1 => ∃ C a d v, ExcG K C f ∧ x = .ref a ∧ H1 a = some (exo a C (some d)) ∧ H1 d = some (exd d [(f, v)]) ∧ Q v H1
theorem pe_fldE {X : Cx} {e : Expr} {f : Str} {te : TE} {pos : Pos} (he : PE X e te) (hb : attributeBase e f X.env (eval e X.env) = eval e X.env := by rfl) : PE X (.Attribute e f pos) (tFldL X.K f te) := by
  refine ⟨fun pins s σ H Q I h => ?_⟩
  refine attr_of hb (thn (he.run pins s σ H _ I h) fun u s1 hh => ?_)
  obtain ⟨x, H1, I1, rx, C, a, d, v, G, rfl, ea, ed, q⟩ := hh
  obtain rfl : u = Value.ref a := rx
  obtain ⟨t1, ho⟩ := exo_at I1.hok ea
  obtain ⟨mA, hns, rel⟩ := exd_at I1.hok ed
  obtain ⟨od, hod, hl⟩ := lookIn_ns hns
  have l : List.lookup f [(f, v)] = some v := by simp [List.lookup]
  obtain ⟨w', hw, rw'⟩ := RelO.some_of (v := v) (o := mA f) (by rw [← l]; exact rel f)
  have J : PySem.W.InstAt s1.heap a _ C (some od) := ⟨ho, rfl, rfl, hod⟩
  exact HandSPX.exc_get I1.kIn J G.ga G.gg G.exC (PySem.W.findObj_own G.hdC G.noN rfl (by rw [hl, hw])) (handed_of rw') ⟨v, H1, I1.tok _, rw', q⟩
def wFldE (K : Frag) (f : Str) (w : Wp) : Wp := fun env c Q X => w env c (fun d c' => match d with
  | .exc C [g] [v] => g = f ∧ ExcG K C f ∧ Q v c'
  | _ => False) X
theorem je_fldE {X : Cx} {E : XK} {e : Expr} {f : Str} {w : Wp} {pos : Pos} (he : JE X E e w) (hb : attributeBase e f X.env (eval e X.env) = eval e X.env := by rfl) : JE X E (.Attribute e f pos) (wFldE X.K f w) :=
  ⟨PE.weak (pe_fldE he.pe hb) fun σ H Q ⟨I, θ, env, c, eo, o, k⟩ => then_ he.mono eo o k fun d c1 v I1 H1 θ1 s1 o1 eo1 r1 k1 => by
    split at k1
    · rename_i C g dv
      obtain ⟨rfl, G, k1⟩ := k1
      unfold Rep at r1
      obtain ⟨a, dx, vs, rfl, ha, hd, hl, r2⟩ := r1
      unfold RepL at r2
      obtain ⟨v1, vs1, rfl, r3, r4⟩ := r2
      unfold RepL at r4
      subst r4
      exact ⟨C, a, dx, v1, G, rfl, o1.ext _ _ ha, o1.ext _ _ hd, k1 v1 I1 H1 θ1 s1 o1 r3⟩
    · exact k1.elim,
   fun env c Q Q' X X' h hx k => he.mono _ _ _ _ _ _ (fun d c' z => by
    split at z
    · exact ⟨z.1, z.2.1, h _ _ z.2.2⟩
    · exact z.elim) hx k⟩

/-! ### isinstance -/
structure ExcI (K : Frag) (C : Addr) : Prop where
  hcl : (clsIn K C).isSome = true
  ga : findIn K (.ref C) "__getattribute__" = some (some (.builtin "BaseException.__getattribute__"))
  gg : findIn K (.ref C) "__getattr__" = some none
  exC : subIn K (.ref C) (.type "BaseException") = some true
  ha : findIn K (.ref C) "__class__" = some (some (.builtin "object.__class__"))
  hn : specialIn K (.builtin "object.__class__") "__get__" = some (some (.builtin "getset_descriptor.__get__"))
  ht : takesIn K (.builtin "object.__class__") = some true
  hm : mroIn K C (.type "object") = some true
inductive TyD (K : Frag) (H : Hp) : V → Value → Prop
  | base {x : V} {t : Value} (h : TyX K H x t) : TyD K H x t
  | exo {a C : Addr} {d : Addr} (e : H a = some (exo a C (some d))) (ed : ∃ fs, H d = some (exd d fs)) (t : ExcI K C) : TyD K H (.ref a) (.ref C)
  | ex0 {a C : Addr} (e : H a = some (ExO (.ref C) a)) (t : ExcI K C) : TyD K H (.ref a) (.ref C)
def rIsD (K : Frag) : List V → Hp → VK → Prop := fun xs H Q => ∃ (x c : V) (t u : Value) (b : Bool), xs = [x, c] ∧ ClsV c u ∧ TyD K H x t ∧ kitOne K t u = some b ∧ Q (.bl b) H
theorem kitD {X : Cx} {pins : List (Addr × Obj)} {σ : L2.St} {H : Hp} {s : Shared} {x : V} {u t : Value} (I : Inv X pins σ H s) (rx : RelV x u) (ty : TyD X.K H x t) : ∃ P : Heap → Prop, KitX X.K u t P ∧ P s.heap ∧ u ≠ .builtin "__main__.__loader__#opaque" := by
  cases ty with
  | base h => exact kit_of I rx h
  | exo e ed T =>
    cases rx
    obtain ⟨fs, ed⟩ := ed
    obtain ⟨t1, ho⟩ := exo_at I.hok e
    obtain ⟨mA, hns, rel⟩ := exd_at I.hok ed
    obtain ⟨od, hod, hl⟩ := lookIn_ns hns
    exact ⟨_, kitx_exc T.hcl T.ga T.gg T.exC T.ha T.hn T.ht T.hm, (⟨ho, rfl, rfl, hod⟩ : PySem.W.InstAt s.heap _ _ _ (some od)), nofun⟩
  | ex0 e T =>
    cases rx
    obtain ⟨⟨oe, vs, ho, hz, hd, _⟩, _⟩ := I.hok _ _ e
    exact ⟨_, kitx_exc (ox := oe) (od := none) T.hcl T.ga T.gg T.exC T.ha T.hn T.ht T.hm, (⟨ho, hz.1, by unfold PySem.W.notCls; rw [hd] <;> rfl, by rw [hz.2]; trivial⟩ : PySem.W.InstAt s.heap _ oe _ none), nofun⟩
theorem call_isD {X : Cx} : CallR X (.builtin "isinstance") (rIsD X.K) := by
  intro pins s σ H xs us Q I r h
  obtain ⟨x, c, t, u, b, rfl, k, ty, e, q⟩ := h
  obtain ⟨u1, u2, rfl, r1, r2⟩ := vals2 r
  have e2 := k.eq r2
  subst e2
  obtain ⟨P, Z, p, hx⟩ := kitD I r1 ty
  exact PySem.W.kia_one Z I.kIn p e hx fun tk => ⟨.bl b, H, I.tok tk, rfl, q⟩
/-- the type of a thing, by its data (an instance's: see InsI) -/
inductive TyOfD (K : Frag) (c : Cells) : D → Value → Prop
  | non : TyOfD K c .non (.type "NoneType")
  | bl (b : Bool) : TyOfD K c (.bl b) (.type "bool")
  | int (i : Int) : TyOfD K c (.int i) (.type "int")
  | str (x : Str) : TyOfD K c (.str x) (.type "str")
  | tup (ds : List D) : TyOfD K c (.tup ds) (.type "tuple")
  | lst (ds : List D) : TyOfD K c (.lst ds) (.type "list")
  | dct (ks : List Key) (ds : List D) : TyOfD K c (.dct ks ds) (.type "dict")
  | exc {C : Addr} {ns : List Str} {ds : List D} (t : ExcI K C) : TyOfD K c (.exc C ns ds) (.ref C)
  | exc0 {C : Addr} (t : ExcI K C) : TyOfD K c (.exc0 C) (.ref C)
inductive ClsD : D → Value → Prop
  | ty (n : String) : ClsD (.ty n) (.type n)
  | own (C : Addr) : ClsD (.obj C) (.ref C)
def gIs (K : Frag) : GA := fun ds c Q _ => match ds with
  | [x, d] => ∃ (t u : Value) (b : Bool), TyOfD K c x t ∧ ClsD d u ∧ kitOne K t u = some b ∧ Q (.bl b) c
  | _ => False
theorem tyOfD_ok {K : Frag} {I H : Hp} {θ : List Addr} {c : Cells} {d : D} {v : V} {t : Value} (o : Ok K I H θ c) (r : Rep K I θ d v) (h : TyOfD K c d t) : TyD K H v t := by
  cases h with
  | non => unfold Rep at r; subst r; exact .base (.base .non)
  | bl b => unfold Rep at r; subst r; exact .base (.base (.bl b))
  | int i => unfold Rep at r; subst r; exact .base (.base (.int i))
  | str x => unfold Rep at r; subst r; exact .base (.base (.str x))
  | tup ds =>
    unfold Rep at r
    obtain ⟨a, vs, rfl, h, _⟩ := r
    rcases h with (h | ⟨ob, h⟩) | ⟨ob, its, n, h1, h2, _⟩
    · exact .base (.base (.tup (o.ext _ _ h)))
    · exact .base (.fTuple (o.ext _ _ h))
    · exact .base (.kTuple h1 h2)
  | lst ds => unfold Rep at r; obtain ⟨a, vs, rfl, h, _⟩ := r; exact .base (.base (.lst (o.ext _ _ h)))
  | dct ks ds => unfold Rep at r; obtain ⟨a, vs, rfl, h, _⟩ := r; exact .base (.base (.dK (o.ext _ _ h)))
  | exc T => unfold Rep at r; obtain ⟨a, dx, vs, rfl, h1, h2, _⟩ := r; exact .exo (o.ext _ _ h1) ⟨_, o.ext _ _ h2⟩ T
  | exc0 T => unfold Rep at r; obtain ⟨a, rfl, h1⟩ := r; exact .ex0 (o.ext _ _ h1) T
theorem gIs_ok {K : Frag} : SndA K (rIsD K) (gIs K) := ⟨fun I H θ c ds vs Q Xp o r k => by
  unfold gIs at k
  split at k
  · rename_i x d
    obtain ⟨t, u, b, ht, hc, hk, k⟩ := k
    unfold RepL at r
    obtain ⟨v, vs', rfl, r1, r2⟩ := r
    unfold RepL at r2
    obtain ⟨v2, vs2, rfl, r2, r3⟩ := r2
    unfold RepL at r3
    subst r3
    refine ⟨v, v2, t, u, b, rfl, ?_, tyOfD_ok o r1 ht, hk, k.here o rep_bl⟩
    cases hc with
    | ty n => unfold Rep at r2; subst r2; exact .ty n
    | own C => unfold Rep at r2; subst r2; exact .own C
  · exact k.elim,
  fun ds c Q Q' X X' h hx k => by
  unfold gIs at *
  split at k
  · obtain ⟨t, u, b, ht, hc, hk, k⟩ := k
    exact ⟨t, u, b, ht, hc, hk, h _ _ k⟩
  · exact k.elim⟩

/-! ### C(v), C(f=v), C() -/
def wMkE (C : Addr) (f : Str) (wa : WpA) : Wp := fun env c Q X => wa env c (fun ds c' => ∃ d, ds = [d] ∧ Q (.exc C [f] [d]) c') X
theorem wMkE_mono {C : Addr} {f : Str} {wa : WpA} (m : MonoA wa) : Mono (wMkE C f wa) := fun env c Q Q' X X' h hx k => m _ _ _ _ _ _ (fun _ _ ⟨d, e, z⟩ => ⟨d, e, h _ _ z⟩) hx k
theorem tMkE_of {K : Frag} {E : XK} {C : Addr} {f : Str} {wa : WpA} (m : MonoA wa) {σ : L2.St} {H : Hp} {Q : VK} (k : tW K (WC E) (wMkE C f wa) σ H Q) : tMkE C f (tWA K (WC E) wa) σ H Q := by
  obtain ⟨I, θ, env, c, eo, o, k⟩ := k
  refine thenA m eo o k fun ds c1 vs I1 H1 θ1 s1 o1 eo1 r1 k1 => ?_
  obtain ⟨d, rfl, k1⟩ := k1
  unfold RepL at r1
  obtain ⟨v, vs', rfl, r2, r3⟩ := r1
  unfold RepL at r3
  subst r3
  refine ⟨v, rfl, fun a dx ha hd hne => ?_⟩
  obtain ⟨o2, s2⟩ := o1.new (u := exd dx [(f, v)]) hd
  obtain ⟨o3, s3⟩ := o2.new (p := a) (u := exo a C (some dx)) (by rw [upd_ne (Ne.symm hne)]; exact ha)
  refine k1 (.ref a) _ _ _ ((s1.trans s2).trans s3) o3 ?_
  unfold Rep
  exact ⟨a, dx, [v], rfl, upd_same, by rw [upd_ne hne, upd_same]; rfl, rfl, repL_cons (s3.rep (s2.rep r2)) repL_nil⟩
section
variable {X : Cx} {E : XK} {C fI : Addr} {q f x : Str} {tl : List Value} {B newId initId : String} {e : Expr} {wa : WpA} {w : Wp} {p pos : Pos}
theorem je_mkE (T : ExcT X.K C fI q f tl B newId initId) (hr : Room 1 X.A) (hg : Gl X x) (hm : X.mg x = some (.ref C)) (ha : JA X E [e] wa)
    (hb : ∀ (s : Shared) (x : Addr) (v doc pm : Value) (an : Option Addr) (cdv ct : Value) (p1 p2 q1 q2 q3 q4 : Pos), BindsTo s (fnOf "__init__" q (eA f p1 p2) (eB f q1 q2 q3 q4) (eS f) .none .none doc pm an cdv ct) ⟨[.ref x, v], []⟩ [("self", .ref x), (f, v)] := by intros; exact .of_eq (by rfl))
    (hf : (f == ("self" : Str)) = false := by decide) (hfd : (f == ("__debug__" : Str)) = false := by decide) (hdb : (x == ("__debug__" : Str)) = false := by decide)
    (he : starEach [e] X.env = [(false, eval e X.env)] := by rfl) (hpl : (backTo pos (starEach [] X.env)).any (·.1) = false := by rfl) : JE X E (.Call (.Name x p) [e] [] pos) (wMkE C f wa) :=
  ⟨PE.weak (pe_mkE T hr hg hm ha.pa hb hf hfd hdb he hpl) fun σ H Q k => tMkE_of ha.mono k, wMkE_mono ha.mono⟩
theorem je_mkEK {kpos : Pos} (T : ExcT X.K C fI q f tl B newId initId) (hr : Room 1 X.A) (hg : Gl X x) (hm : X.mg x = some (.ref C)) (h : JE X E e w)
    (hb : ∀ (s : Shared) (x : Addr) (v doc pm : Value) (an : Option Addr) (cdv ct : Value) (p1 p2 q1 q2 q3 q4 : Pos), BindsTo s (fnOf "__init__" q (eA f p1 p2) (eB f q1 q2 q3 q4) (eS f) .none .none doc pm an cdv ct) ⟨[.ref x], [(f, v)]⟩ [("self", .ref x), (f, v)] := by intros; exact .of_eq (by rfl))
    (hf : (f == ("self" : Str)) = false := by decide) (hfd : (f == ("__debug__" : Str)) = false := by decide) (hdb : (x == ("__debug__" : Str)) = false := by decide)
    (hall : (backToKw pos (keywordEach [⟨some f, e, kpos⟩] X.env)).all (·.1.isSome) = true := by rfl) (hks : (backToKw pos (keywordEach [⟨some f, e, kpos⟩] X.env)).filterMap (·.1) = [f] := by rfl)
    (hpl : ((backTo pos (starEach [] X.env)).any (·.1) || (backToKw pos (keywordEach [⟨some f, e, kpos⟩] X.env)).any (·.1.isNone)) = false := by rfl) :
    JE X E (.Call (.Name x p) [] [⟨some f, e, kpos⟩] pos) (wMkE C f (aCons w aNil)) :=
  have m : MonoA (aCons w aNil) := aCons_mono h.mono aNil_mono
  ⟨PE.weak (pe_mkEK T hr hg hm (pk_cons h.pe pk_nil) hb hf hfd hdb hall hks hpl) fun σ H Q k => by
    have z := tMkE_of m k
    have z2 : tMkE C f (tCons (tW X.K (WC E) w) tNil) σ H Q := by
      obtain ⟨I, θ, env, c, eo, o, kk⟩ := k
      refine then_ h.mono eo o kk fun d c1 v I1 H1 θ1 s1 o1 eo1 r1 k1 => ?_
      obtain ⟨d', e', k1⟩ := k1
      cases e'
      refine ⟨v, rfl, fun a dx ha hd hne => ?_⟩
      obtain ⟨o2, s2⟩ := o1.new (u := exd dx [(f, v)]) hd
      obtain ⟨o3, s3⟩ := o2.new (p := a) (u := exo a C (some dx)) (by rw [upd_ne (Ne.symm hne)]; exact ha)
      refine k1 (.ref a) _ _ _ ((s1.trans s2).trans s3) o3 ?_
      unfold Rep
      exact ⟨a, dx, [v], rfl, upd_same, by rw [upd_ne hne, upd_same]; rfl, rfl, repL_cons (s3.rep (s2.rep r1)) repL_nil⟩
    exact z2, wMkE_mono m⟩
/-- C() of a class without own __init__ -/
def wMkE0 (C : Addr) : Wp := fun _ c Q _ => Q (.exc0 C) c
theorem je_mkE0 {bmB : List Value} (F : ExcBaseFacts B newId initId bmB) (q : PySem.W.excIn X.K C bmB newId = true) (gC : X.mg x = some (.ref C)) (kC : PySem.W.keepIn X.K (.ref C) = true) (hg : Gl X x) (hdb : (x == ("__debug__" : Str)) = false := by decide) : JE X E (.Call (.Name x p) [] [] pos) (wMkE0 C) :=
  ⟨⟨fun pins s σ H Q I ⟨I0, θ, env, c, eo, o, k⟩ => by
    refine wpAny_Call_Name_kw (ld_glob I hg gC ?_ hdb)
    refine PySem.W.callWith_K0 I.kIn kC ?_
    show wpAny _ _ (call (.ref C) []) _ _ _
    obtain ⟨bm, N, nm, qn, bs, hdct, sn, sub, ab, col, dd, k0, k1, k2, k3, k5, mN, hC, hN, hni, T⟩ := exc_obj I.kIn q
    refine wpAny_call_exc_subT F T hC hN hni (fun h' a hm => ?_) (Nat.zero_le _)
    have hn : H a = none := I.hok.gone hm.new
    obtain ⟨t, ht, _, _⟩ := hm.there
    obtain ⟨o2, s2⟩ := o.new (u := ExO (.ref C) a) hn
    exact ⟨.ref a, upd H a (ExO (.ref C) a), I.laidN hm.keeps hm.new hn (exO_ok ht ⟨rfl, rfl⟩ rfl rfl rfl (show 4 < 6 by decide)), rfl, k (.ref a) _ _ _ s2 o2 (by unfold Rep; exact ⟨a, rfl, upd_same⟩)⟩⟩, fun _ _ _ _ _ _ h _ k => h _ _ k⟩
end

/-! ### defs whose guards are told -/
structure FnG (P : Program) (w : World) (K : Frag) (mg : Str → Option Value) (base : Heap) (k : Nat) (f : Addr) (fd : FuncData) (ps : List Str) (wf : GA) : Prop where
  run : ∀ (A : Around) (outer : List PySem.Env) (s : Shared) (H : Hp) (args : Args) (us : List Value) (vs : List V) (Q : VK) (E : XK), Room k A → A.guards = some [] → Env0 P w K mg base A outer s H → BindsTo s fd args (ps.zip us) → Vals vs us → spD K ps.length wf vs H Q E →
    codeAny (model P w) A (.call (.ref f) args) (CR (L2.CX P w) outer P w H s Q E) s
theorem FnG.of {P : Program} {w : World} {K : Frag} {mg : Str → Option Value} {base : Heap} {k : Nat} {f : Addr} {fd : FuncData} {ps : List Str} {wf : GA} (F : FnOk P w K mg base (L2.CX P w) k f fd ps (spD K ps.length wf)) : FnG P w K mg base k f fd ps wf :=
  ⟨fun A outer s H args us vs Q E hr _ e0 hb r h => F.run A outer s H args us vs Q E hr e0 hb r h⟩
theorem defG_ok {P : Program} {w : World} {K : Frag} {mg : Str → Option Value} {base : Heap} {x qual : Str} {st : Stmt} {f : Addr} {fd : FuncData} {N ps : List Str} {k : Nat} {wf : GA} {ws : WpS} (F : Fun K x qual st f fd) (S : FnScope N ps (defScope st))
    (hb : ∀ (cdv : Value) (A : Around) (outer : List PySem.Env) (s : Shared) (H : Hp) (E : XK), Room k (A.deeper (envOfC qual (defScope st) s.heap.objs.size f cdv)) → A.guards = some [] → JSs (cxOf (L2.CX P w) P w K mg base N qual (defScope st) f cdv A outer s H E) E (defBody st) ws)
    (hw : ∀ ds c Q X, QOk c Q → XOk c X → ds.length = ps.length → wf ds c Q X → ws (startD N.length ds) c { nx := fun _ c' => Q .non c', rt := Q } X) : FnG P w K mg base (k + 1) f fd ps wf := ⟨fun A outer s H args us vs Q E hr hg e0 hbn r ⟨I, θ, ds, c, hl, rl, o, h⟩ => by
  obtain ⟨oc, od, kV, doc, pm, an, cdv, ct, osl, rfl, lk, hcd⟩ := F.ex
  refine LamX.run_ofS lk hcd S hr e0 hbn r (by rw [repL_len rl, hl]) fun hr' => ?_
  refine ⟨_, (hb cdv A outer s H E hr' hg).ps, I, θ, _, c, envOk_start rl, o, ?_⟩
  refine (hb cdv A outer s H E hr' hg).mono _ _ { nx := fun _ c' => Lift K I H θ Q .non c', rt := Lift K I H θ Q } _ _ _ ⟨fun e c' z σ' I' H' θ' s' o' _ => z .non I' H' θ' s' o' rep_non, fun d c' z => z, fun _ _ z => z.elim, fun _ _ z => z.elim⟩ (XLe.refl _) (hw ds c _ _ (QOk.lift o) (XOk.lift o) hl h)⟩
section
variable {X : Cx} {E : XK} {e : Expr} {es : List Expr} {wa : WpA} {wf : GA} {x : Str} {p pos : Pos} {k : Nat} {f : Addr} {fd : FuncData} {ps : List Str}
theorem je_callG (F : FnG X.prog X.w X.K X.mg X.base k f fd ps wf) (hG : X.A.guards = some []) (mg : MonoG wf) (hr : Room k X.A) (hgl : Gl X x) (hm : X.mg x = some (.ref f)) (hk : PySem.W.keepIn X.K (.ref f) = true) (hb : Binds X.K fd ps []) (tk : Takes X (WC E)) (ha : JA X E (e :: es) wa)
    (hdb : (x == ("__debug__" : Str)) = false := by decide) (he : starEach (e :: es) X.env = (false, eval e X.env) :: starEach es X.env := by rfl) (hpl : (backTo pos (starEach es X.env)).any (·.1) = false := by rfl) :
    JE X E (.Call (.Name x p) (e :: es) [] pos) (wFn ps.length wf wa) :=
  ⟨⟨fun pins s σ H Q I h => by
    refine wpAny_Call_Name_kw (ld_glob I hgl hm ?_ hdb)
    have sp := spD_of (K := X.K) (E := E) mg ha.mono h
    refine PySem.W.callWith_K (h₀ := X.base) I.ok.mod.kin hk (thn (ha.pa.run pos pins s σ H _ I sp) fun us s1 ⟨vs, H1, I1, r, q⟩ => ⟨I1.kIn, ?_⟩) he hpl
    have hl : us.length = ps.length := by
      obtain ⟨I0, θ0, ds0, c0, l0, r0, _, _⟩ := q
      rw [← r.length, repL_len r0, l0]
    have b := hb s1 us I1.kIn (by rw [List.append_nil]; exact hl)
    rw [List.append_nil] at b
    refine wpAny_call (codeAny_mono (F.run X.A X.stack s1 H1 ⟨us, []⟩ us vs Q E hr hG I1.env0 b r q) fun r s' z => ?_)
    rcases r with er | (_ | _ | _ | u)
    · exact passAt tk σ pins H1 s1 er s' I1 z
    · exact z.elim
    · exact z.elim
    · exact z.elim
    · exact I1.after z⟩, wFn_mono mg ha.mono⟩
end
end DL
set_option Elab.async false
set_option linter.all false
set_option maxRecDepth 100000
set_option maxHeartbeats 2000000
/-! DL.E: the end of a law's row, the law's def told by FnG. -/
namespace DL
open PySem PySem.Spec PyProof.Rows L2
/-- the script, seen as data, wherever it stands -/
theorem law_at {P : Program} {w : World} {K : PySem.W.Frag} {mg mb : Str → Option Value} {k : Nat} {fa a : Addr} {fd : FuncData} {x : Str} {wf : GA} {z : Shared} {vs : List Value} {ns : List Int}
    (hK : K.In z.heap) (hG : z.heap.Ns mainGlobals mg) (hB : z.heap.Ns builtinsNs mb) (hBB : ∀ x : Str, x ≠ "__name__" → mb x = bootBuiltins x) (hL : z.heap.NoLimit) (hg : z.gens = #[])
    (ha : z.heap.get? a = some { cls := .type "list", data := .seq vs.toArray }) (hi : IntsAre vs ns) (hz : ns.length ≤ sizeLine) (hr : Room k callerA)
    (F : ∀ base : Heap, K.In base → base.Ns mainGlobals mg → FnG P w K mg base k fa fd [x] wf) (hb : ∀ (s : Shared) (u : Value), BindsTo s fd ⟨[u], []⟩ [(x, u)])
    (hw : ∀ (Q : QE) (X : XP), Q (.bl true) [] → wf [.rol (ns.map D.int)] [] Q X) :
    codeAny (model P w) callerA (.call (.ref fa) ⟨[.ref a], []⟩) (fun r s' => r = .ok (.ret (.bool true)) ∧ OldK z.heap s'.heap ∧ s'.os = z.os ∧ AllBare s'.gens) z := by
  have rv := vals_ints hi
  have main : ∀ H : Hp, (∀ b, H b = none ∨ (b = a ∧ K.lookup a = none ∧ H b = some (.frz { cls := .type "list", data := .seq vs.toArray } (.lst (ns.map V.int))))) → SqL K H a (ns.map V.int) → HOk P w H z.heap →
      codeAny (model P w) callerA (.call (.ref fa) ⟨[.ref a], []⟩) (fun r s' => r = .ok (.ret (.bool true)) ∧ OldK z.heap s'.heap ∧ s'.os = z.os ∧ AllBare s'.gens) z := by
    intro H only sq ok
    have free : ∀ {b : Addr} {o : Obj} {es : Array DictEntry} {ep : Nat}, z.heap.get? b = some o → o.data = .dict es ep → H b = none := fun {b o es ep} e d => by
      rcases only b with q | ⟨q, _, _⟩
      · exact q
      · subst q
        rw [ha] at e
        cases e
        have d' : Data.seq vs.toArray _ = Data.dict es ep := d
        cases d'
    have seen : ∀ {b : Addr} {m : Str → Option Value}, z.heap.Ns b m → (hidT z.heap H).Ns b m := fun {b m} ⟨o, es, ep, e, d, r⟩ => ⟨o, es, ep, hidT_get e (free e d), d, r⟩
    have inK : K.In (hidT z.heap H) := fun b o e => hidT_get (hK b o e) (by
      rcases only b with q | ⟨q, q2, _⟩
      · exact q
      · rw [q, q2] at e
        cases e)
    obtain ⟨mc, l1, l2⟩ := hL
    have e0 : Env0 P w K mg (hidT z.heap H) callerA [] z H :=
      { frames := rfl, mod := ⟨inK, seen hG, ⟨mb, seen hB, hBB⟩, ⟨mc, seen l1, l2⟩⟩, bs := fun b o e => of_hidT e, bsz := Nat.le_of_eq (hidT_size _ _), funs := trivial, frf := fun b h => absurd (show b ∈ ([] : List Addr) from h) (by simp), hok := ok, bare := .of_eq hg }
    have o0 : Ok K H H [] [] := ⟨Ex.refl _, rfl, List.nodup_nil, fun b m => absurd m (by simp), fun j b m h _ => by simp at h⟩
    have r0 : Rep K H [] (.rol (ns.map D.int)) (.ref a) := by unfold Rep; exact ⟨a, _, rfl, sq, repL_of_ints ns⟩
    have sp : spD K [x].length wf [.ref a] H (fun v _ => v = .bl true) (fun _ _ _ => False) := ⟨H, [], [.rol (ns.map D.int)], [], rfl, repL_cons r0 repL_nil, o0, by
      exact hw (Lift K H H [] (fun v _ => v = .bl true)) _ (fun v I' H' θ' _ _ r => by unfold Rep at r; exact r)⟩
    refine codeAny_mono ((F _ inK (seen hG)).run callerA [] z H ⟨[.ref a], []⟩ [.ref a] [.ref a] _ _ hr rfl e0 (hb z (.ref a)) (.cons rfl .nil) sp) fun r s' h => ?_
    rcases r with er | (_ | _ | _ | u)
    · obtain ⟨_, _, _, _, _, _, _, _, _, _, _, _, no⟩ := h
      exact no.elim
    · exact False.elim h
    · exact False.elim h
    · exact False.elim h
    · obtain ⟨v, H', os, bare, un, ok', r', q⟩ := h
      obtain rfl : v = .bl true := q
      obtain rfl : u = Value.bool true := r'
      refine ⟨rfl, OldK.of_keep fun b o e => ?_, os, bare⟩
      rcases only b with n | ⟨_, _, n⟩
      · exact un.keep b o e n (fun m => absurd (show b ∈ ([] : List Addr) from m) (by simp)) (by simp)
      · obtain ⟨e1, _⟩ := ok b _ n
        obtain ⟨e2, _⟩ := ok' b _ (un.frzs b _ _ n)
        rw [e] at e1
        cases e1
        exact e2
  have lv : vs.length = ns.length := hi.length
  cases hk : K.lookup a with
  | some o =>
    have e := hK a o hk
    rw [ha] at e
    cases e
    exact main (fun _ => none) (fun _ => .inl rfl) (.inr ⟨_, vs.toArray, _, hk, rfl, rfl, rfl, by simp [lv, hz], by simpa using rv⟩) (fun b u h => nomatch (show (none : Option HO) = some u from h))
  | none =>
    refine main (upd (fun _ => none) a (.frz { cls := .type "list", data := .seq vs.toArray } (.lst (ns.map V.int)))) (fun b => ?_) (.inl (.inr ⟨_, upd_same⟩)) (fun b u h => ?_)
    · by_cases q : b = a
      · subst q
        exact .inr ⟨rfl, hk, upd_same⟩
      · exact .inl (upd_ne q)
    · by_cases q : b = a
      · subst q
        rw [upd_same] at h
        cases h
        exact ⟨ha, by simp [hz], vs, _, rv, ha⟩
      · rw [upd_ne q] at h
        cases h
theorem walkG {l : PySem.W.OpenLaw} {n k : Nat} {q : Program} {loose : List Str} {XP' : (Str → Option Value) → Heap → Prop} {YP : World → Heap → Prop} {d : DefRec} {K : Params → PySem.W.Frag} {wf : World → GA} {x : Str}
    (hn : l.most = some n) (hn2 : n ≤ sizeLine) (hdf : d.params.defaults = []) (hr : Room k callerA) (hY : ∀ (w : World) (h : Heap), YP w h → (K w.params).In h)
    (F : ∀ (w : World) (mg : Str → Option Value) (fa : Addr) (h : Heap), XP' mg h → (K w.params).In h → h.Ns mainGlobals mg → mg d.name = some (.ref fa) →
      ∃ fd : FuncData, (∀ (s : Shared) (u : Value), BindsTo s fd ⟨[u], []⟩ [(x, u)]) ∧ ∀ base : Heap, (K w.params).In base → base.Ns mainGlobals mg → FnG l.prog w (K w.params) mg base k fa fd [x] (wf w))
    (hw : ∀ (w : World) (ns : List Int), ns.length ≤ n → ∀ (Q : QE) (X : XP), Q (.bl true) [] → wf w [.rol (ns.map D.int)] [] Q X) : PySem.W.WalkO q loose XP' YP l.row.toRowW d [] (fun f vs => PySem.call f vs) := by
  refine Att.attach_call hn hdf fun w s₀ s₁ mg mb fa o pm cd doc a vs ns G Y ho hd hcd hmg hobj hints hlen hg => ?_
  have KX := hY w _ Y
  obtain ⟨fd, hb, hF⟩ := F w mg fa _ G.X KX G.T.g hmg
  exact law_at KX G.T.g G.T.b G.T.builtins G.T.nolimit hg hobj hints (Nat.le_trans hlen hn2) hr hF hb (hw w ns hlen)
end DL
set_option Elab.async false
set_option linter.all false
set_option maxRecDepth 100000
set_option maxHeartbeats 1000000
/-! DL.N: more small rules. -/
namespace DL
open PySem PySem.Spec PyProof.Rows L2
theorem je_globIx {X : Cx} {E : XK} {x : Str} {n : Int} {pos : Pos} (hg : Gl X x) (hm : ∃ t : Tok, X.mg x = some (.int n t)) (hd : (x == ("__debug__" : Str)) = false := by decide) : JE X E (.Name x pos) (wC (.int n)) := by
  obtain ⟨t, hm⟩ := hm
  exact je_globI hg hm hd
def wNeg (w : Wp) : Wp := fun env c Q X => w env c (fun d c' => match d with
  | .int i => Q (.int (-i)) c'
  | _ => False) X
section
variable {X : Cx} {E : XK} {a b e : Expr} {wa wb w : Wp} {pos : Pos}
theorem je_neg (h : JE X E a w) : JE X E (.UnaryOp .USub a pos) (wNeg w) :=
  ⟨PE.weak (pe_un un_neg h.pe) fun σ H Q ⟨I, θ, env, c, eo, o, k⟩ => then_ h.mono eo o k fun d c1 v I1 H1 θ1 s1 o1 eo1 r1 k1 => by
    split at k1
    · unfold Rep at r1; exact ⟨_, r1, k1 _ I1 H1 θ1 s1 o1 rep_int⟩
    · exact k1.elim, fun env c Q Q' X X' h' hx k => h.mono _ _ _ _ _ _ (fun d c' z => by
    split at z
    · exact h' _ _ z
    · exact z.elim) hx k⟩
theorem je_lt (ha : JE X E a wa) (hb : JE X E b wb) : JE X E (.Compare a [.Lt] [b] pos) (w2 gLt wa wb) := je_cmp op_lt (gI_ok fun _ _ _ _ => rep_bl) ha hb (nomark _)
theorem je_le (ha : JE X E a wa) (hb : JE X E b wb) : JE X E (.Compare a [.LtE] [b] pos) (w2 gLe wa wb) := je_cmp op_le (gI_ok fun _ _ _ _ => rep_bl) ha hb (nomark _)
theorem je_gt (ha : JE X E a wa) (hb : JE X E b wb) : JE X E (.Compare a [.Gt] [b] pos) (w2 gGt wa wb) := je_cmp op_gt (gI_ok fun _ _ _ _ => rep_bl) ha hb (nomark _)
theorem je_ge (ha : JE X E a wa) (hb : JE X E b wb) : JE X E (.Compare a [.GtE] [b] pos) (w2 gGe wa wb) := je_cmp op_ge (gI_ok fun _ _ _ _ => rep_bl) ha hb (nomark _)
theorem je_eqD (hu : X.A.units + 64 < cLine) (ha : JE X E a wa) (hb : JE X E b wb) : JE X E (.Compare a [.Eq] [b] pos) (w2 gEqD wa wb) := je_cmp (op_eqD hu) gEqD_ok ha hb (nomark _)
theorem je_neD (hu : X.A.units + 64 < cLine) (ha : JE X E a wa) (hb : JE X E b wb) : JE X E (.Compare a [.NotEq] [b] pos) (w2 gNeD wa wb) := je_cmp (op_neD hu) gNeD_ok ha hb (nomark _)
theorem jt_eqD (hu : X.A.units + 64 < cLine) (ha : JE X E a wa) (hb : JE X E b wb) : JT X E (.Compare a [.Eq] [b] pos) (wB (w2 gEqD wa wb)) := jt_cmp (op_eqD hu) gEqD_ok ha hb (nomark _)
theorem jt_neD (hu : X.A.units + 64 < cLine) (ha : JE X E a wa) (hb : JE X E b wb) : JT X E (.Compare a [.NotEq] [b] pos) (wB (w2 gNeD wa wb)) := jt_cmp (op_neD hu) gNeD_ok ha hb (nomark _)
end
/-! ### contracts: what is asked, what is given -/
def wfP (pre : List D → Cells → Prop) (post : List D → Cells → D → Cells → Prop) : GA := fun ds c Q _ => pre ds c ∧ ∀ d c', post ds c d c' → Q d c'
theorem wfP_mono {pre : List D → Cells → Prop} {post : List D → Cells → D → Cells → Prop} : MonoG (wfP pre post) := fun ds c Q Q' X X' h hx k => ⟨k.1, fun d c' z => h _ _ (k.2 d c' z)⟩
/-- .. with letters of its own -/
def wfE {α : Type} (pre : α → List D → Cells → Prop) (post : α → Cells → D → Cells → Prop) : GA := fun ds c Q _ => ∃ a, pre a ds c ∧ ∀ d c', post a c d c' → Q d c'
theorem wfE_mono {α : Type} {pre : α → List D → Cells → Prop} {post : α → Cells → D → Cells → Prop} : MonoG (wfE pre post) := fun ds c Q Q' X X' h hx ⟨a, k1, k2⟩ => ⟨a, k1, fun d c' z => h _ _ (k2 d c' z)⟩
theorem ite_both {p a b : Prop} [Decidable p] (ha : a) (hb : b) : if p then a else b := by
  split
  · exact ha
  · exact hb
theorem je_fldK {X : Cx} {E : XK} (K : PySem.W.Frag) {e : Expr} {f : Str} {w : Wp} {pos : Pos} (he : JE X E e w) (hK : X.K = K := by rfl) (hb : attributeBase e f X.env (eval e X.env) = eval e X.env := by rfl) : JE X E (.Attribute e f pos) (wFldE K f w) := by
  subst hK
  exact je_fldE he hb
/-- a def of the text, as it is called -/
structure Cal (P : Program) (w : World) (K : PySem.W.Frag) (mg : Str → Option Value) (base : Heap) (k : Nat) (x : Str) (ps : List Str) (wf : GA) : Prop where
  ex : ∃ (f : Addr) (fd : FuncData), FnG P w K mg base k f fd ps wf ∧ Binds K fd ps [] ∧ mg x = some (.ref f) ∧ PySem.W.keepIn K (.ref f) = true
theorem je_cal {X : Cx} {E : XK} {e : Expr} {es : List Expr} {wa : WpA} {wf : GA} {x : Str} {p pos : Pos} {k : Nat} {ps : List Str} (C : Cal X.prog X.w X.K X.mg X.base k x ps wf) (hG : X.A.guards = some []) (mg : MonoG wf) (hr : Room k X.A) (hgl : Gl X x) (tk : Takes X (WC E)) (ha : JA X E (e :: es) wa)
    (hdb : (x == ("__debug__" : Str)) = false := by decide) (he : starEach (e :: es) X.env = (false, eval e X.env) :: starEach es X.env := by rfl) (hpl : (backTo pos (starEach es X.env)).any (·.1) = false := by rfl) :
    JE X E (.Call (.Name x p) (e :: es) [] pos) (wFn ps.length wf wa) := by
  obtain ⟨f, fd, F, hb, hm, hk⟩ := C.ex
  exact je_callG F hG mg hr hgl hm hk hb tk ha hdb he hpl
theorem mulW {i j : Int} (hi : i.natAbs < 2 ^ 400000) (hj : j.natAbs < 2 ^ 400000) : CMulW i j := by
  have key : ∀ n : Nat, n < 2 ^ 400000 → n.log2 < 400001 := fun n h => by
    by_cases z : n = 0
    · subst z; decide
    · exact Nat.lt_succ_of_lt ((Nat.log2_lt z).mpr h)
  have a := key _ hi
  have b := key _ hj
  unfold CMulW
  omega
theorem mulW64 {i j : Int} (hi : -(2 ^ 64) < i ∧ i < 2 ^ 64) (hj : -(2 ^ 64) < j ∧ j < 2 ^ 64) : CMulW i j := by
  have key : ∀ n : Nat, n < 2 ^ 64 → n.log2 < 65 := fun n h => by
    by_cases z : n = 0
    · subst z; decide
    · exact Nat.lt_succ_of_lt ((Nat.log2_lt z).mpr h)
  have a := key i.natAbs (by omega)
  have b := key j.natAbs (by omega)
  unfold CMulW
  omega
theorem divW64 {i j : Int} (h : 0 < j) (hj : j < 2 ^ 64) : CDivW i j := by
  refine ⟨h, ?_⟩
  have : j.natAbs.log2 < 65 := by
    by_cases z : j.natAbs = 0
    · rw [z]; decide
    · exact Nat.lt_succ_of_lt ((Nat.log2_lt z).mpr (by omega))
  omega
/-! ### classes of errors, each with what is asked of it -/
def ExcV (K : PySem.W.Frag) (C : Addr) (f : Str) : Prop := ∃ (fI : Addr) (q : Str) (tl : List Value) (B newId initId : String), ExcT K C fI q f tl B newId initId
def ExcV0 (K : PySem.W.Frag) (C : Addr) : Prop := ∃ (B newId initId : String) (bmB : List Value), ExcBaseFacts B newId initId bmB ∧ PySem.W.excIn K C bmB newId = true ∧ PySem.W.keepIn K (.ref C) = true
theorem ExcV.g {K : PySem.W.Frag} {C : Addr} {f : Str} (h : ExcV K C f) : ExcG K C f := by
  obtain ⟨_, _, _, _, _, _, T⟩ := h
  exact T.g
section
variable {X : Cx} {E : XK} {C : Addr} {f x : Str} {e : Expr} {wa : WpA} {w : Wp} {p pos kpos : Pos}
theorem je_mkEv (T : ExcV X.K C f) (hr : Room 1 X.A) (hg : Gl X x) (hm : X.mg x = some (.ref C)) (ha : JA X E [e] wa)
    (hb : ∀ (q : Str) (s : Shared) (x : Addr) (v doc pm : Value) (an : Option Addr) (cdv ct : Value) (p1 p2 q1 q2 q3 q4 : Pos), BindsTo s (PySem.W.fnOf "__init__" q (eA f p1 p2) (eB f q1 q2 q3 q4) (eS f) .none .none doc pm an cdv ct) ⟨[.ref x, v], []⟩ [("self", .ref x), (f, v)] := by intros; exact .of_eq (by rfl))
    (hf : (f == ("self" : Str)) = false := by decide) (hfd : (f == ("__debug__" : Str)) = false := by decide) (hdb : (x == ("__debug__" : Str)) = false := by decide)
    (he : starEach [e] X.env = [(false, eval e X.env)] := by rfl) (hpl : (backTo pos (starEach [] X.env)).any (·.1) = false := by rfl) : JE X E (.Call (.Name x p) [e] [] pos) (wMkE C f wa) := by
  obtain ⟨_, _, _, _, _, _, T⟩ := T
  exact je_mkE T hr hg hm ha (hb _) hf hfd hdb he hpl
theorem je_mkEKv (T : ExcV X.K C f) (hr : Room 1 X.A) (hg : Gl X x) (hm : X.mg x = some (.ref C)) (h : JE X E e w)
    (hb : ∀ (q : Str) (s : Shared) (x : Addr) (v doc pm : Value) (an : Option Addr) (cdv ct : Value) (p1 p2 q1 q2 q3 q4 : Pos), BindsTo s (PySem.W.fnOf "__init__" q (eA f p1 p2) (eB f q1 q2 q3 q4) (eS f) .none .none doc pm an cdv ct) ⟨[.ref x], [(f, v)]⟩ [("self", .ref x), (f, v)] := by intros; exact .of_eq (by rfl))
    (hf : (f == ("self" : Str)) = false := by decide) (hfd : (f == ("__debug__" : Str)) = false := by decide) (hdb : (x == ("__debug__" : Str)) = false := by decide)
    (hall : (backToKw pos (keywordEach [⟨some f, e, kpos⟩] X.env)).all (·.1.isSome) = true := by rfl) (hks : (backToKw pos (keywordEach [⟨some f, e, kpos⟩] X.env)).filterMap (·.1) = [f] := by rfl)
    (hpl : ((backTo pos (starEach [] X.env)).any (·.1) || (backToKw pos (keywordEach [⟨some f, e, kpos⟩] X.env)).any (·.1.isNone)) = false := by rfl) :
    JE X E (.Call (.Name x p) [] [⟨some f, e, kpos⟩] pos) (wMkE C f (aCons w aNil)) := by
  obtain ⟨_, _, _, _, _, _, T⟩ := T
  exact je_mkEK T hr hg hm h (hb _) hf hfd hdb hall hks hpl
theorem je_mkE0v (T : ExcV0 X.K C) (hg : Gl X x) (gC : X.mg x = some (.ref C)) (hdb : (x == ("__debug__" : Str)) = false := by decide) : JE X E (.Call (.Name x p) [] [] pos) (wMkE0 C) := by
  obtain ⟨_, _, _, _, F, q, k⟩ := T
  exact je_mkE0 F q gC k hg hdb
end
/-- a comprehension that looks only -/
theorem compL_map {i : Nat} {w : Wp} (f : D → D) {c : Cells} {Q : QA} {env : Env} : ∀ (ds acc : List D), (∀ d ∈ ds, ∀ (Q : QE) (X : XP), Q (f d) c → w (env.set i (some d)) c Q X) → acc.length + ds.length ≤ sizeLine → Q (acc ++ ds.map f) c → compL (bind1 i) sYes w ds acc env c Q
  | [], acc, _, _, k => by unfold compL; simpa using k
  | d :: ds, acc, h, hl, k => by
    unfold compL
    simp only [bind1, sYes, if_true]
    refine h d (by simp) _ _ ⟨by simp at hl; omega, ?_⟩
    exact compL_map f ds (acc ++ [f d]) (fun d m => h d (by simp [m])) (by simp at hl ⊢; omega) (by simpa using k)
/-- a for by what holds behind the things gone through; nothing asked of the body -/
theorem forL_cps {g : WpG} {u : WpS} {O : Out} {X : XP} (Pv : List D → Env → Cells → Prop) : ∀ (ds pre : List D) (env : Env) (c : Cells), Pv pre env c →
    (∀ (pre' : List D) (d : D) (post : List D) (env : Env) (c : Cells) (N : Env → Cells → Prop), pre ++ ds = pre' ++ d :: post → Pv pre' env c → (∀ e c, Pv (pre' ++ [d]) e c → N e c) → g d env c (fun env' c' => u env' c' { O with nx := N, ct := N, bk := O.nx } X) X) →
    (∀ (env : Env) (c : Cells), Pv (pre ++ ds) env c → O.nx env c) → forL g u ds env c O X
  | [], pre, env, c, h, _, he => he env c (by simpa using h)
  | d :: ds, pre, env, c, h, hs, he => hs pre d ds env c _ rfl h fun e c z => forL_cps Pv ds (pre ++ [d]) e c z (fun pre' d' post env c N e => hs pre' d' post env c N (by rw [← e]; simp)) (fun env c z => he env c (by simpa using z))
theorem compL_cps {b : D → Env → Option Env} {t : WpT} {w : Wp} {env : Env} {Q : QA} (Pv : List D → List D → Cells → Prop) : ∀ (ds pre acc : List D) (c : Cells), Pv pre acc c →
    (∀ (pre' : List D) (d : D) (post acc : List D) (c : Cells) (N : List D → Cells → Prop), pre ++ ds = pre' ++ d :: post → Pv pre' acc c → (∀ a c, Pv (pre' ++ [d]) a c → N a c) → match b d env with
      | some env1 => t env1 c (fun k c2 => if k = true then w env1 c2 (fun y c3 => acc.length < sizeLine ∧ N (acc ++ [y]) c3) (fun _ _ _ _ => False) else N acc c2) (fun _ _ _ _ => False)
      | none => False) →
    (∀ (acc : List D) (c : Cells), Pv (pre ++ ds) acc c → Q acc c) → compL b t w ds acc env c Q
  | [], pre, acc, c, h, _, he => by unfold compL; exact he acc c (by simpa using h)
  | d :: ds, pre, acc, c, h, hs, he => by
    unfold compL
    exact hs pre d ds acc c (fun acc c => compL b t w ds acc env c Q) rfl h fun e c z => compL_cps Pv ds (pre ++ [d]) e c z (fun pre' d' post env c N e => hs pre' d' post env c N (by rw [← e]; simp)) (fun env c z => he env c (by simpa using z))
theorem bools_const : ∀ (ds : List D), bools (ds.map fun _ => D.bl true) = some (ds.map fun _ => true)
  | [] => rfl
  | d :: ds => by rw [List.map_cons]; unfold bools; rw [bools_const ds]; rfl
theorem gAll_true {ds : List D} {c : Cells} {Q : QE} {X : XP} (k : Q (.bl true) c) : gAll (fun bs => bs.all id) [.lst (ds.map fun _ => D.bl true)] c Q X := by
  have e : (List.map (fun _ => true) ds).all id = true := by simp
  unfold gAll
  simp only [lstD, bools_const, e]
  exact k
theorem _root_.L2.Room.u100 {k : Nat} {A : Around} (h : Room k A) : A.units + 100 < cLine := by have := h.un; omega
theorem gRepL_one {d : D} {n : Nat} {c : Cells} {Q : QE} {X : XP} (h : n ≤ 1000) (k : Q (.lst (List.replicate n d)) c) : gRepL mkP (.lst [d]) (.int n) c Q X := by
  refine ⟨by omega, by omega, ?_, ?_⟩
  · unfold sizeLine; simp; omega
  · have e : (List.replicate (n : Int).toNat [d]).flatten = List.replicate n d := by
      rw [Int.toNat_natCast]
      clear k h
      induction n with
      | zero => rfl
      | succ n ih => rw [List.replicate_succ, List.flatten_cons, ih, List.replicate_succ]; rfl
    show Q (.lst _) c
    rw [e]; exact k
/-- what an error with one field keeps -/
def fldD : D → D
  | .exc _ _ [v] => v
  | d => d
theorem _root_.L2.Room.u64 {k : Nat} {A : Around} (h : Room k A) : A.units + 64 < cLine := by have := h.un; omega
end DL
set_option Elab.async false
set_option linter.all false
set_option maxRecDepth 100000
/-! SHO: how long the repr of data may be. -/
namespace DL
open PySem
mutual
def bulk : PyData → Nat
  | .none => 4
  | .bool _ => 5
  | .int i => i.natAbs.log2 + 3
  | .str x => (reprText x).length
  | .list xs => bulkL xs + 2
  | .tuple xs => bulkL xs + 3
  | .dict kvs => (PyData.dict kvs).shown.length
def bulkL : List PyData → Nat
  | [] => 0
  | x :: xs => bulk x + 2 + bulkL xs
end
theorem textFrom_len : ∀ (ts : List Str) (i : Nat) (acc : Str), (textFrom i acc ts).length ≤ acc.length + (ts.map fun t => t.length + 2).sum
  | [], i, acc => by rw [textFrom.eq_1]; simp
  | t :: ts, i, acc => by
    rw [textFrom.eq_2]
    refine Nat.le_trans (textFrom_len ts _ _) ?_
    rw [Str.length_append, Str.length_append, List.map_cons, List.sum_cons]
    have : (Str.ofString (if i > 0 then ", " else "")).length ≤ 2 := by split <;> decide
    omega
theorem int_len (i : Int) : (Str.ofString (toString i)).length ≤ i.natAbs.log2 + 3 := by
  have key : ∀ n : Nat, (Str.ofString (toString (n : Int))).length ≤ n.log2 + 1 := fun n => by
    refine PyProof.Rows.toString_length_le (by omega) (by omega) ?_
    have h1 : n < 2 ^ (n.log2 + 1) := Nat.lt_log2_self
    have h2 : 2 ^ (n.log2 + 1) ≤ 10 ^ (n.log2 + 1) := Nat.pow_le_pow_left (by decide) _
    have : n < 10 ^ (n.log2 + 1) := Nat.lt_of_lt_of_le h1 h2
    exact_mod_cast this
  cases i with
  | ofNat n => exact Nat.le_trans (key n) (by show n.log2 + 1 ≤ n.log2 + 3; omega)
  | negSucc n =>
    have e : toString (Int.negSucc n) = "-" ++ toString ((n + 1 : Nat) : Int) := rfl
    rw [e]
    have k := key (n + 1)
    rw [ofString_length] at k ⊢
    rw [String.length_append]
    have : "-".length = 1 := rfl
    show _ ≤ (n + 1).log2 + 3
    omega
mutual
theorem shown_le : ∀ d : PyData, d.shown.length ≤ bulk d
  | .none => by rw [PyData.shown.eq_1]; decide
  | .bool b => by rw [PyData.shown.eq_2]; cases b <;> decide
  | .int i => by rw [PyData.shown.eq_3]; exact int_len i
  | .str x => by rw [PyData.shown.eq_4]; exact Nat.le_refl _
  | .list xs => by
    rw [PyData.shown.eq_5, listText, Str.length_append]
    have h := textFrom_len (PyData.shownAll xs) 0 (Str.ofString "[")
    have h2 := shownAll_le xs
    have e1 : (Str.ofString "[").length = 1 := by decide
    have e2 : (Str.ofString "]").length = 1 := by decide
    unfold bulk
    omega
  | .tuple xs => by
    rw [PyData.shown.eq_6, tupleText, Str.length_append, Str.length_append]
    have h := StrLaws.join_length_le (Str.ofString ", ") (PyData.shownAll xs)
    have h2 := shownAll_le xs
    have e0 : (Str.ofString ", ").length = 2 := by decide
    have e1 : (Str.ofString "(").length = 1 := by decide
    have e2 : (Str.ofString (if ((PyData.shownAll xs).length == 1) = true then ",)" else ")")).length ≤ 2 := by split <;> decide
    have e3 : ∀ l : List Str, (l.map fun t => t.length + 2).sum = (l.map fun t => t.length).sum + l.length * 2 := fun l => by
      induction l with
      | nil => rfl
      | cons t l ih => simp only [List.map_cons, List.sum_cons, List.length_cons, ih]; omega
    rw [e0] at h
    rw [e3] at h2
    unfold bulk
    omega
  | .dict kvs => by unfold bulk; exact Nat.le_refl _
theorem shownAll_le : ∀ xs : List PyData, ((PyData.shownAll xs).map fun t => t.length + 2).sum ≤ bulkL xs
  | [] => by rw [PyData.shownAll.eq_1]; exact Nat.zero_le _
  | x :: xs => by
    rw [PyData.shownAll.eq_2, List.map_cons, List.sum_cons]
    have h1 := shown_le x
    have h2 := shownAll_le xs
    unfold bulkL
    omega
end
end DL
set_option Elab.async false
set_option linter.all false
set_option maxRecDepth 100000
/-! CLS: an own class of errors, by what the written part says of it. -/
namespace DL
open PySem PySem.W PySem.Calls L2
/-- the class at C, its mro C :: bm, is laid out -/
structure ClsB (K : Frag) (C : Addr) (bm : List Value) : Prop where
  mro : ∀ b, mroIn K C b = some ((Value.ref C :: bm).contains b)
  cls : (clsIn K C).isSome = true
  ty : typeIn K (.ref C) = some (.type "type")
theorem clsB_mk {K : Frag} {C N : Addr} {nm qn : Str} {bs bm : List Value} {hd : Bool} {sn : List Str} {sub : List Value} {ab : Bool} {col : Option Bool} {dd : Option Addr} {k0 k1 k2 k3 k5 : Option Value} {nI : String}
    (l : K.lookup C = some (excClassObj nm qn C N bs bm hd sn sub ab col dd k0 k1 k2 k3 k5 nI)) : ClsB K C bm := by
  have c : clsIn K C = some { name := nm, bases := bs, mro := .ref C :: bm, ns := N, qualname := qn, hasDict := hd, slotNames := sn, subclasses := sub, abstract := ab, collection := col } := by
    unfold clsIn; rw [l] <;> rfl
  refine ⟨fun b => ?_, by rw [c]; rfl, ?_⟩
  · unfold mroIn; rw [c]; rfl
  · show Option.map (fun x => x.cls) (List.lookup C K) = _; rw [l]; rfl
theorem kit_own {K : Frag} {C C' : Addr} {bm bm' : List Value} (h : ClsB K C bm) (h' : ClsB K C' bm') : kitOne K (.ref C) (.ref C') = some ((Value.ref C :: bm).contains (.ref C')) := by
  unfold kitOne
  split
  · rename_i e
    have e := eq_of_beq e
    rw [← e]
    simp
  · show (if ((clsIn K C').isSome && typeIn K (.ref C') == some (.type "type")) = true then subIn K (.ref C) (.ref C') else none) = _
    rw [h'.cls, h'.ty]
    exact h.mro _
theorem kit_ty {K : Frag} {C : Addr} {bm : List Value} {T : String} (h : ClsB K C bm) (m : kitMeta T = true) : kitOne K (.ref C) (.type T) = some ((Value.ref C :: bm).contains (.type T)) := by
  unfold kitOne
  split
  · rename_i e
    exact nomatch eq_of_beq e
  · show (if kitMeta T = true then subIn K (.ref C) (.type T) else none) = _
    rw [m]
    exact h.mro _
theorem cons_has {x v : Value} {bm : List Value} (h : bm.contains x = true) : some ((v :: bm).contains x) = some true := by
  rw [List.contains_cons, h, Bool.or_true]
theorem excI_mk {K : Frag} {C : Addr} {bm : List Value} (h : ClsB K C bm) (ga : findIn K (.ref C) "__getattribute__" = some (some (.builtin "BaseException.__getattribute__"))) (gg : findIn K (.ref C) "__getattr__" = some none)
    (ha : findIn K (.ref C) "__class__" = some (some (.builtin "object.__class__"))) (hn : specialIn K (.builtin "object.__class__") "__get__" = some (some (.builtin "getset_descriptor.__get__"))) (ht : takesIn K (.builtin "object.__class__") = some true)
    (hb : bm.contains (.type "BaseException") = true) (ho : bm.contains (.type "object") = true) : ExcI K C :=
  ⟨h.cls, ga, gg, by show mroIn K C _ = _; rw [h.mro]; exact cons_has hb, ha, hn, ht, by rw [h.mro]; exact cons_has ho⟩
theorem excV_mk {K : Frag} {C N fI : Addr} {nm qn : Str} {bs bm tl : List Value} {sn : List Str} {sub : List Value} {ab : Bool} {col : Option Bool} {dd : Option Addr} {k0 k1 k2 k3 k5 : Option Value} {B newId initId : String} {f q : Str} {oc doc pm cdv ct : Value} {od an : Option Addr} {osl : Array (Option Value)} {p1 p2 q1 q2 q3 q4 : Pos}
    (base : ExcBaseFacts B newId initId tl) (sto : StoreFacts B tl "object.__setattr__" "object") (obj : tl.contains (.type "object") = true)
    (l : K.lookup C = some (excClassObj nm qn C N bs bm true sn sub ab col dd k0 k1 k2 k3 k5 newId)) (t : tailB tl bm = true) (hb : bm.contains (.type "BaseException") = true)
    (sa : findIn K (.ref C) "__setattr__" = some (some (.builtin "object.__setattr__"))) (ga : findIn K (.ref C) "__getattribute__" = some (some (.builtin "BaseException.__getattribute__"))) (gg : findIn K (.ref C) "__getattr__" = some none)
    (nf : findIn K (.ref C) f = some none) (iC : findIn K (.ref C) "__init__" = some (some (.ref fI))) (tI : typeIn K (.ref fI) = some (.type "function")) (kC : keepIn K (.ref C) = true)
    (lI : K.lookup fI = some ⟨oc, od, .func (fnOf "__init__" q (eA f p1 p2) (eB f q1 q2 q3 q4) (eS f) .none .none doc pm an cdv ct), osl⟩) (cI : codeIn K cdv q = true) : ExcV K C f := by
  have h := clsB_mk l
  have c : clsIn K C = some { name := nm, bases := bs, mro := .ref C :: bm, ns := N, qualname := qn, hasDict := true, slotNames := sn, subclasses := sub, abstract := ab, collection := col } := by
    unfold clsIn; rw [l] <;> rfl
  exact ⟨fI, q, tl, B, newId, initId, base, sto, obj, ⟨nm, qn, N, bs, bm, sn, sub, ab, col, dd, k0, k1, k2, k3, k5, l, t⟩, sa, ga, gg, nf, iC, tI, kC, by show mroIn K C _ = _; rw [h.mro]; exact cons_has hb, h.ty, by unfold hasDictIn; rw [c]; rfl, ⟨oc, od, doc, pm, an, cdv, ct, osl, p1, p2, q1, q2, q3, q4, lI, cI⟩⟩
/-- a number that the top keeps loose -/
theorem loose_int {p : Program} {lv : List (Str × WData)} {mg : Str → Option Value} {h : Heap} {x : Str} {n : Int} (X : XL p lv mg h) (m : (x, WData.int n) ∈ lv) : ∃ t : Tok, mg x = some (.int n t) := by
  obtain ⟨v, hv, r⟩ := X.2.val _ m
  cases r
  exact ⟨_, hv⟩
end DL
set_option Elab.async false
set_option linter.all false
set_option maxRecDepth 100000
set_option maxHeartbeats 4000000
namespace K12
open PySem PySem.Spec PyProof.Rows L2 DL
def top (i : Nat) : Stmt := PySem.Challenge.pw_figurelines_k12_errors_and_limits.main.body.getD i (.Pass ⟨0, 0, 0, 0⟩)
/-- under which of the three bases a class stands -/
def under (i : Nat) : Nat := if i < 18 then 22 else if i < 21 then 23 else 24

structure Txt (K : PySem.W.Frag) (mg : Str → Option Value) (c : Nat → Addr) : Prop where
  g0 : mg "NotAFormat" = some (.ref (c 0))
  e0 : ExcV K (c 0) "value"
  g1 : mg "NotALine" = some (.ref (c 1))
  e1 : ExcV K (c 1) "value"
  g2 : mg "NotALedger" = some (.ref (c 2))
  e2 : ExcV K (c 2) "value"
  g3 : mg "InvalidNumber" = some (.ref (c 3))
  e3 : ExcV K (c 3) "value"
  g4 : mg "InvalidText" = some (.ref (c 4))
  e4 : ExcV K (c 4) "value"
  g5 : mg "InvalidName" = some (.ref (c 5))
  e5 : ExcV K (c 5) "value"
  g6 : mg "InvalidWish" = some (.ref (c 6))
  e6 : ExcV K (c 6) "value"
  g7 : mg "InvalidSigns" = some (.ref (c 7))
  e7 : ExcV K (c 7) "value"
  g8 : mg "InvalidRow" = some (.ref (c 8))
  e8 : ExcV K (c 8) "value"
  g9 : mg "UnknownName" = some (.ref (c 9))
  e9 : ExcV K (c 9) "value"
  g10 : mg "UnknownSetting" = some (.ref (c 10))
  e10 : ExcV K (c 10) "value"
  g11 : mg "UnknownKind" = some (.ref (c 11))
  e11 : ExcV K (c 11) "value"
  g12 : mg "InvalidSetting" = some (.ref (c 12))
  e12 : ExcV K (c 12) "setting"
  g13 : mg "InvalidRange" = some (.ref (c 13))
  e13 : ExcV K (c 13) "end"
  g14 : mg "InvalidParts" = some (.ref (c 14))
  e14 : ExcV K (c 14) "index"
  g15 : mg "InvalidNumbers" = some (.ref (c 15))
  e15 : ExcV K (c 15) "index"
  g16 : mg "InvalidKinds" = some (.ref (c 16))
  e16 : ExcV K (c 16) "index"
  g17 : mg "InvalidDeeds" = some (.ref (c 17))
  e17 : ExcV K (c 17) "index"
  g18 : mg "NothingToUndo" = some (.ref (c 18))
  e18 : ExcV0 K (c 18)
  g19 : mg "Busy" = some (.ref (c 19))
  e19 : ExcV0 K (c 19)
  g20 : mg "NoSuchRow" = some (.ref (c 20))
  e20 : ExcV K (c 20) "place"
  g21 : mg "TooLong" = some (.ref (c 21))
  e21 : ExcV K (c 21) "limit"
  g22 : mg "Unfit" = some (.ref (c 22))
  g23 : mg "Unready" = some (.ref (c 23))
  g24 : mg "Beyond" = some (.ref (c 24))
  m_MOST_PARTS : ∃ t : Tok, mg "MOST_PARTS" = some (.int 8 t)
  m_MOST_FIELDS : ∃ t : Tok, mg "MOST_FIELDS" = some (.int 4 t)
  m_MOST_WIDTH : ∃ t : Tok, mg "MOST_WIDTH" = some (.int 12 t)
  m_MOST_GROUP : ∃ t : Tok, mg "MOST_GROUP" = some (.int 4 t)
  m_MOST_BOUND : ∃ t : Tok, mg "MOST_BOUND" = some (.int 1000000000000 t)
  m_MOST_LENGTH : ∃ t : Tok, mg "MOST_LENGTH" = some (.int 400 t)
  m_MOST_KINDS : ∃ t : Tok, mg "MOST_KINDS" = some (.int 6 t)
  n_len : mg "len" = none
  n_abs : mg "abs" = none
  n_int : mg "int" = none
  n_min : mg "min" = none
  n_max : mg "max" = none
  n_range : mg "range" = none
  n_all : mg "all" = none
  n_isinstance : mg "isinstance" = none
  n_repr : mg "repr" = none
  n_ValueError : mg "ValueError" = none
  n_LookupError : mg "LookupError" = none
  n_ArithmeticError : mg "ArithmeticError" = none
  xI : ∀ i, i < 22 → ExcI K (c i)
  kit : ∀ i, i < 22 → ∀ j, j < 25 → PySem.W.kitOne K (.ref (c i)) (.ref (c j)) = some (i == j || under i == j)
  kit22 : ∀ i, i < 22 → PySem.W.kitOne K (.ref (c i)) (.type "ValueError") = some (under i == 22)
  kit23 : ∀ i, i < 22 → PySem.W.kitOne K (.ref (c i)) (.type "LookupError") = some (under i == 23)
  kit24 : ∀ i, i < 22 → PySem.W.kitOne K (.ref (c i)) (.type "ArithmeticError") = some (under i == 24)
def s_pot : Stmt := top 34
abbrev N_pot : List Str := ["_law_script", "_law_k", "_law_beaten", "_law_each", "_law_entry"]
abbrev P_pot : List Str := ["_law_script", "_law_k"]
theorem sc_pot : FnScope N_pot P_pot (defScope s_pot) := ⟨rfl, rfl, rfl, by decide +kernel, rfl, by decide +kernel, by decide +kernel⟩
def s_spoon : Stmt := top 35
abbrev N_spoon : List Str := ["_law_pot_here", "_law_wide", "_law_left"]
abbrev P_spoon : List Str := ["_law_pot_here", "_law_wide"]
theorem sc_spoon : FnScope N_spoon P_spoon (defScope s_spoon) := ⟨rfl, rfl, rfl, by decide +kernel, rfl, by decide +kernel, by decide +kernel⟩
def s_of : Stmt := top 36
abbrev N_of : List Str := ["_law_pot_here", "_law_things"]
abbrev P_of : List Str := ["_law_pot_here", "_law_things"]
theorem sc_of : FnScope N_of P_of (defScope s_of) := ⟨rfl, rfl, rfl, by decide +kernel, rfl, by decide +kernel, by decide +kernel⟩
def s_values : Stmt := top 37
abbrev N_values : List Str := ["_law_thing", "_law_made", "_law_more"]
abbrev P_values : List Str := ["_law_thing"]
theorem sc_values : FnScope N_values P_values (defScope s_values) := ⟨rfl, rfl, rfl, by decide +kernel, rfl, by decide +kernel, by decide +kernel⟩
def s_indexes : Stmt := top 38
abbrev N_indexes : List Str := ["_law_thing", "_law_made", "_law_more"]
abbrev P_indexes : List Str := ["_law_thing"]
theorem sc_indexes : FnScope N_indexes P_indexes (defScope s_indexes) := ⟨rfl, rfl, rfl, by decide +kernel, rfl, by decide +kernel, by decide +kernel⟩
def s_kept_right : Stmt := top 39
abbrev N_kept_right : List Str := ["_law_thing", "_law_some", "_law_places", "_law_seen", "_law_e", "_law_others"]
abbrev P_kept_right : List Str := ["_law_thing"]
theorem sc_kept_right : FnScope N_kept_right P_kept_right (defScope s_kept_right) := ⟨rfl, rfl, rfl, by decide +kernel, rfl, by decide +kernel, by decide +kernel⟩
def s_classes : Stmt := top 40
abbrev N_classes : List Str := ["_law_e", "_law_seen"]
abbrev P_classes : List Str := ["_law_e"]
theorem sc_classes : FnScope N_classes P_classes (defScope s_classes) := ⟨rfl, rfl, rfl, by decide +kernel, rfl, by decide +kernel, by decide +kernel⟩
def s_kin : Stmt := top 41
abbrev N_kin : List Str := ["_law_e", "_law_seen"]
abbrev P_kin : List Str := ["_law_e"]
theorem sc_kin : FnScope N_kin P_kin (defScope s_kin) := ⟨rfl, rfl, rfl, by decide +kernel, rfl, by decide +kernel, by decide +kernel⟩
def s_right : Stmt := top 42
abbrev N_right : List Str := ["_law_pot_here", "_law_thing", "_law_some", "_law_moments", "_law_tops", "_law_e", "_law_limits"]
abbrev P_right : List Str := ["_law_pot_here"]
theorem sc_right : FnScope N_right P_right (defScope s_right) := ⟨rfl, rfl, rfl, by decide +kernel, rfl, by decide +kernel, by decide +kernel⟩
def s_law : Stmt := top 43
abbrev N_law : List Str := ["_law_script", "_law_k"]
abbrev P_law : List Str := ["_law_script"]
theorem sc_law : FnScope N_law P_law (defScope s_law) := ⟨rfl, rfl, rfl, by decide +kernel, rfl, by decide +kernel, by decide +kernel⟩
/-- the error of the class i, made with d -/
def exD (c : Nat → Addr) (i : Nat) (d : D) : D := if i < 12 then .exc (c i) ["value"] [d] else if i = 12 then .exc (c i) ["setting"] [d] else if i = 13 then .exc (c i) ["end"] [d] else if i < 18 then .exc (c i) ["index"] [d] else
  if i < 20 then .exc0 (c i) else if i = 20 then .exc (c i) ["place"] [d] else .exc (c i) ["limit"] [d]
def vals (c : Nat → Addr) (d : D) : List D := [0, 1, 2, 3, 4, 5, 6, 7, 8, 9, 10, 11, 0, 1, 2, 3, 4, 5, 6, 7, 8, 9, 10, 11].map fun i => exD c i d
def idxs (c : Nat → Addr) (d : D) : List D := [14, 15, 16, 17, 14, 15, 16, 17].map fun i => exD c i d
def wf_values (c : Nat → Addr) : GA := wfP (fun ds _ => ∃ d, ds = [d]) fun ds c0 r c1 => ∃ d, ds = [d] ∧ r = .lst (vals c d) ∧ c1 = c0
def wf_indexes (c : Nat → Addr) : GA := wfP (fun ds _ => ∃ d, ds = [d]) fun ds c0 r c1 => ∃ d, ds = [d] ∧ r = .lst (idxs c d) ∧ c1 = c0
theorem sz {n : Nat} (h : n ≤ 1000) : n ≤ sizeLine := by unfold sizeLine; omega
/-- the two numbers that draws come from -/
def Pot (m : MO) : Prop := ∃ a b : Int, m = .lst [.int a, .int b] ∧ 0 ≤ b ∧ b < 2038074743
def wf_pot (_ : Nat → Addr) : GA := wfP (fun ds _ => match ds with
  | [.rol xs, .int k] => (∃ ns : List Int, xs = ns.map D.int ∧ ns.length ≤ 63) ∧ 0 ≤ k ∧ k < 63
  | _ => False) fun _ c0 r c1 => r = .cell c0.length ∧ ∃ m, Pot m ∧ c1 = c0 ++ [m]
def wf_spoon (_ : Nat → Addr) : GA := wfP (fun ds c0 => match ds with
  | [.cell j, .int n] => (∃ m, c0[j]? = some m ∧ Pot m) ∧ 0 < n ∧ n < 2 ^ 60
  | _ => False) fun ds c0 r c1 => match ds with
  | [.cell j, .int n] => ∃ (x : Int) (m : MO), r = .int x ∧ 0 ≤ x ∧ x < n ∧ Pot m ∧ c1 = c0.set j m
  | _ => False
def wf_of (_ : Nat → Addr) : GA := wfP (fun ds c0 => match ds with
  | [.cell j, .lst xs] => (∃ m, c0[j]? = some m ∧ Pot m) ∧ 0 < xs.length ∧ xs.length < 1000
  | _ => False) fun ds c0 r c1 => match ds with
  | [.cell j, .lst xs] => r ∈ xs ∧ ∃ m, Pot m ∧ c1 = c0.set j m
  | _ => False
def wf_classes (c : Nat → Addr) : GA := wfP (fun ds _ => ∃ i d, i < 22 ∧ ds = [exD c i d]) fun _ c0 r c1 => r = .int 1 ∧ c1 = c0
def wf_kin (c : Nat → Addr) : GA := wfE (α := Nat × D) (fun a ds _ => a.1 < 22 ∧ ds = [exD c a.1 a.2]) fun a c0 r c1 => r = .lst ([22, 23, 24, 22, 23, 24].map fun j => .bl (under a.1 == j)) ∧ c1 = c0
/-- what is kept: all of it -/
def kr (d : D) : List D := [.lst (List.replicate 24 d), .lst (List.replicate 8 d)] ++ List.replicate 8 d
def Good (d : D) : Prop := plainL true (kr d) = true ∧ (PyData.list (pydL (kr d))).showable = true ∧ (PyData.list (pydL (kr d))).shown.length ≤ sizeLine ∧ (PyData.list (pydL (kr d))).depth ≤ 90
def wf_kept_right (_ : Nat → Addr) : GA := wfP (fun ds _ => ∃ d, ds = [d] ∧ Good d) fun _ c0 r c1 => r = .bl true ∧ c1 = c0
def wf_right (_ : Nat → Addr) : GA := wfP (fun ds c0 => match ds with
  | [.cell j] => ∃ m, c0[j]? = some m ∧ Pot m
  | _ => False) fun ds c0 r c1 => match ds with
  | [.cell j] => r = .bl true ∧ ∃ m, c1 = c0.set j m
  | _ => False
def wf_law (_ : Nat → Addr) : GA := wfP (fun ds _ => ∃ ns : List Int, ds = [.rol (ns.map D.int)] ∧ ns.length ≤ 63) fun _ c0 r c1 => r = .bl true ∧ c1 = c0
section
variable {P : Program} {w : World} {K : PySem.W.Frag} {mg : Str → Option Value} {base : Heap} {c : Nat → Addr} {f : Addr} {fd : FuncData}
theorem ok_values (T : Txt K mg c) (F : Fun K "_law_values" "_law_values" s_values f fd) : FnG P w K mg base 2 f fd P_values (wf_values c) := by
  refine defG_ok F sc_values (fun cdv A outer s H E hr hg => have nd := sc_values.nd
    (jss_cons (js_set 1 (je_lst mkP_ok (ja_cons (je_mkEv T.e0 (hr.mono (by decide)) rfl T.g0 (ja_cons (je_var 0) ja_nil)) (ja_cons (je_mkEv T.e1 (hr.mono (by decide)) rfl T.g1 (ja_cons (je_var 0) ja_nil)) (ja_cons (je_mkEv T.e2 (hr.mono (by decide)) rfl T.g2 (ja_cons (je_var 0) ja_nil)) ja_nil)))) nd)
      (jss_cons (js_set 1 (je_cat mkP_ok (je_var 1) (je_lst mkP_ok (ja_cons (je_mkEv T.e3 (hr.mono (by decide)) rfl T.g3 (ja_cons (je_var 0) ja_nil)) (ja_cons (je_mkEv T.e4 (hr.mono (by decide)) rfl T.g4 (ja_cons (je_var 0) ja_nil)) (ja_cons (je_mkEv T.e5 (hr.mono (by decide)) rfl T.g5 (ja_cons (je_var 0) ja_nil)) ja_nil))))) nd)
      (jss_cons (js_set 1 (je_cat mkP_ok (je_var 1) (je_lst mkP_ok (ja_cons (je_mkEv T.e6 (hr.mono (by decide)) rfl T.g6 (ja_cons (je_var 0) ja_nil)) (ja_cons (je_mkEv T.e7 (hr.mono (by decide)) rfl T.g7 (ja_cons (je_var 0) ja_nil)) (ja_cons (je_mkEv T.e8 (hr.mono (by decide)) rfl T.g8 (ja_cons (je_var 0) ja_nil)) ja_nil))))) nd)
      (jss_cons (js_set 1 (je_cat mkP_ok (je_var 1) (je_lst mkP_ok (ja_cons (je_mkEv T.e9 (hr.mono (by decide)) rfl T.g9 (ja_cons (je_var 0) ja_nil)) (ja_cons (je_mkEv T.e10 (hr.mono (by decide)) rfl T.g10 (ja_cons (je_var 0) ja_nil)) (ja_cons (je_mkEv T.e11 (hr.mono (by decide)) rfl T.g11 (ja_cons (je_var 0) ja_nil)) ja_nil))))) nd)
      (jss_cons (js_set 2 (je_lst mkP_ok (ja_cons (je_mkEKv T.e0 (hr.mono (by decide)) rfl T.g0 (je_var 0)) (ja_cons (je_mkEKv T.e1 (hr.mono (by decide)) rfl T.g1 (je_var 0)) ja_nil))) nd)
      (jss_cons (js_set 2 (je_cat mkP_ok (je_var 2) (je_lst mkP_ok (ja_cons (je_mkEKv T.e2 (hr.mono (by decide)) rfl T.g2 (je_var 0)) (ja_cons (je_mkEKv T.e3 (hr.mono (by decide)) rfl T.g3 (je_var 0)) ja_nil)))) nd)
      (jss_cons (js_set 2 (je_cat mkP_ok (je_var 2) (je_lst mkP_ok (ja_cons (je_mkEKv T.e4 (hr.mono (by decide)) rfl T.g4 (je_var 0)) (ja_cons (je_mkEKv T.e5 (hr.mono (by decide)) rfl T.g5 (je_var 0)) ja_nil)))) nd)
      (jss_cons (js_set 2 (je_cat mkP_ok (je_var 2) (je_lst mkP_ok (ja_cons (je_mkEKv T.e6 (hr.mono (by decide)) rfl T.g6 (je_var 0)) (ja_cons (je_mkEKv T.e7 (hr.mono (by decide)) rfl T.g7 (je_var 0)) ja_nil)))) nd)
      (jss_cons (js_set 2 (je_cat mkP_ok (je_var 2) (je_lst mkP_ok (ja_cons (je_mkEKv T.e8 (hr.mono (by decide)) rfl T.g8 (je_var 0)) (ja_cons (je_mkEKv T.e9 (hr.mono (by decide)) rfl T.g9 (je_var 0)) ja_nil)))) nd)
      (jss_cons (js_set 2 (je_cat mkP_ok (je_var 2) (je_lst mkP_ok (ja_cons (je_mkEKv T.e10 (hr.mono (by decide)) rfl T.g10 (je_var 0)) (ja_cons (je_mkEKv T.e11 (hr.mono (by decide)) rfl T.g11 (je_var 0)) ja_nil)))) nd)
      (jss_one (js_ret (je_cat mkP_ok (je_var 1) (je_var 2))))))))))))))) ?_
  intro ds c0 Q X hQ hX hl h
  obtain ⟨⟨d, rfl⟩, h⟩ := h
  have h := h _ _ ⟨d, rfl, rfl, rfl⟩
  simp [sSeq, sAsg, wLst, aCons, aNil, wMkE, wVar, startD, gSet, w2, gCat, lstT, mkP, sRet, sz]
  exact h
theorem ok_indexes (T : Txt K mg c) (F : Fun K "_law_indexes" "_law_indexes" s_indexes f fd) : FnG P w K mg base 2 f fd P_indexes (wf_indexes c) := by
  refine defG_ok F sc_indexes (fun cdv A outer s H E hr hg => have nd := sc_indexes.nd
    (jss_cons (js_set 1 (je_lst mkP_ok (ja_cons (je_mkEv T.e14 (hr.mono (by decide)) rfl T.g14 (ja_cons (je_var 0) ja_nil)) (ja_cons (je_mkEv T.e15 (hr.mono (by decide)) rfl T.g15 (ja_cons (je_var 0) ja_nil)) (ja_cons (je_mkEv T.e16 (hr.mono (by decide)) rfl T.g16 (ja_cons (je_var 0) ja_nil)) ja_nil)))) nd)
      (jss_cons (js_set 1 (je_cat mkP_ok (je_var 1) (je_lst mkP_ok (ja_cons (je_mkEv T.e17 (hr.mono (by decide)) rfl T.g17 (ja_cons (je_var 0) ja_nil)) ja_nil))) nd)
      (jss_cons (js_set 2 (je_lst mkP_ok (ja_cons (je_mkEKv T.e14 (hr.mono (by decide)) rfl T.g14 (je_var 0)) (ja_cons (je_mkEKv T.e15 (hr.mono (by decide)) rfl T.g15 (je_var 0)) ja_nil))) nd)
      (jss_cons (js_set 2 (je_cat mkP_ok (je_var 2) (je_lst mkP_ok (ja_cons (je_mkEKv T.e16 (hr.mono (by decide)) rfl T.g16 (je_var 0)) (ja_cons (je_mkEKv T.e17 (hr.mono (by decide)) rfl T.g17 (je_var 0)) ja_nil)))) nd)
      (jss_one (js_ret (je_cat mkP_ok (je_var 1) (je_var 2))))))))) ?_
  intro ds c0 Q X hQ hX hl h
  obtain ⟨⟨d, rfl⟩, h⟩ := h
  have h := h _ _ ⟨d, rfl, rfl, rfl⟩
  simp [sSeq, sAsg, wLst, aCons, aNil, wMkE, wVar, startD, gSet, w2, gCat, lstT, mkP, sRet, sz]
  exact h
theorem ok_spoon (T : Txt K mg c) (F : Fun K "_law_spoon" "_law_spoon" s_spoon f fd) : FnG P w K mg base 1 f fd P_spoon (wf_spoon c) := by
  refine defG_ok F sc_spoon (fun cdv A outer s H E hr hg => have nd := sc_spoon.nd
    (jss_cons (js_if (jt_gt (je_ixL (je_var 0) je_int) je_int) (jss_cons (js_set 2 (je_mod (je_callTy call_int1 gInt_ok rfl T.n_int (by decide +kernel) (ja_cons (je_ixL (je_var 0) je_int) ja_nil)) (je_var 1)) nd)
      (jss_cons (js_asg (je_div (je_callTy call_int1 gInt_ok rfl T.n_int (by decide +kernel) (ja_cons (je_ixL (je_var 0) je_int) ja_nil)) (je_var 1)) (jg_ixL (je_var 0) je_int))
      (jss_one (js_ret (je_var 2))))) jss_nil)
      (jss_cons (js_asg (je_mod (je_callTy call_int1 gInt_ok rfl T.n_int (by decide +kernel) (ja_cons (je_add (je_add (je_mul (je_ixL (je_var 0) je_int) je_int) (je_mul (je_div (je_ixL (je_var 0) je_int) je_int) je_int)) je_int) ja_nil)) je_int) (jg_ixL (je_var 0) je_int))
      (jss_one (js_ret (je_mod (je_callTy call_int1 gInt_ok rfl T.n_int (by decide +kernel) (ja_cons (je_div (je_ixL (je_var 0) je_int) je_int) ja_nil)) (je_var 1))))))) ?_
  intro ds c0 Q X hQ hX hl h
  obtain ⟨hp, h⟩ := h
  split at hp
  · rename_i j n
    obtain ⟨⟨m, hm, a, b, rfl, hb0, hb1⟩, h0, h1⟩ := hp
    have hs : ∀ m', (c0.set j m')[j]? = some m' := fun m' => List.getElem?_set_self (List.getElem?_eq_some_iff.mp hm).1
    have e1 := Int.emod_nonneg (b * 1597 + b / 8191 * 29 + 51749) (b := 2038074743) (by decide)
    have e2 := Int.emod_lt_of_pos (b * 1597 + b / 8191 * 29 + 51749) (b := 2038074743) (by decide)
    simp only [sSeq, sAsg, sIf, sFor, sRet, sRetN, sNext, sPar, wB, wNot, wAnd, wOr, wIf, w2, gI, gIC, gAdd, DL.gSub, gMul, gDiv, gMod, gPow, gLt, gLe, gGt, gGe, gIxL, lstD, atI, ixN, wVar, wC, wNeg, startD, gSet, gAt, g3L, DL.wCall, aCons, aNil, g1I, g2I, gInt, gAbs, gMax2, gMin2, gLenL, wLst, wTup, mkP, mkC, gCat, lstT, iSeq, iR1, iR2, oNone, oSome, wSl, gSlL, wFn, wDct0, wMkE0, hm]
    by_cases ha : 0 < a
    · simp [ha, hm, hs, h0, divW64 h0 (by omega : n < 2 ^ 64)]
      exact h _ _ ⟨_, _, rfl, Int.emod_nonneg _ (by omega), Int.emod_lt_of_pos _ h0, ⟨_, _, rfl, hb0, hb1⟩, rfl⟩
    · simp [ha, hm, hs, h0]
      refine ⟨mulW64 (by omega) (by decide), divW64 (by decide) (by decide), mulW64 (by omega) (by decide), divW64 (by decide) (by decide), ?_⟩
      exact h _ _ ⟨_, _, rfl, Int.emod_nonneg _ (by omega), Int.emod_lt_of_pos _ h0, ⟨_, _, rfl, e1, e2⟩, rfl⟩
  · exact hp.elim
theorem ok_of (T : Txt K mg c) (c_law_spoon : Cal P w K mg base 1 "_law_spoon" P_spoon (wf_spoon c)) (F : Fun K "_law_of" "_law_of" s_of f fd) : FnG P w K mg base 2 f fd P_of (wf_of c) := by
  refine defG_ok F sc_of (fun cdv A outer s H E hr hg => have nd := sc_of.nd
    (jss_one (js_ret (je_ixL (je_var 1) (je_cal c_law_spoon hg wfP_mono (hr.mono (by decide)) rfl (takes_of rfl rfl rfl rfl) (ja_cons (je_var 0) (ja_cons (je_callB call_len_seq gLenL_ok rfl T.n_len (by decide +kernel) (ja_cons (je_var 1) ja_nil)) ja_nil))))))) ?_
  intro ds c0 Q X hQ hX hl h
  obtain ⟨hp, h⟩ := h
  split at hp
  · rename_i j xs
    obtain ⟨hm, h0, h1⟩ := hp
    simp only [sSeq, sAsg, sIf, sFor, sRet, sRetN, sNext, sPar, wB, wNot, wAnd, wOr, wIf, w2, gI, gIC, gAdd, DL.gSub, gMul, gDiv, gMod, gPow, gLt, gLe, gGt, gGe, gIxL, lstD, atI, ixN, wVar, wC, wNeg, startD, gSet, gAt, g3L, DL.wCall, aCons, aNil, g1I, g2I, gInt, gAbs, gMax2, gMin2, gLenL, wLst, wTup, mkP, mkC, gCat, lstT, iSeq, iR1, iR2, oNone, oSome, wSl, gSlL, wFn, wDct0, wMkE0]
    refine ⟨rfl, ⟨hm, by omega, by omega⟩, ?_⟩
    rintro r c1 ⟨x, m, rfl, hx0, hx1, hP, rfl⟩
    have hlt : x.toNat < xs.length := by omega
    have e : xs[x.toNat]? = some xs[x.toNat] := List.getElem?_eq_getElem hlt
    simp [hx0, hx1, e]
    exact h _ _ ⟨List.getElem_mem hlt, m, hP, rfl⟩
  · exact hp.elim
theorem ok_pot (T : Txt K mg c) (F : Fun K "_law_pot" "_law_pot" s_pot f fd) : FnG P w K mg base 1 f fd P_pot (wf_pot c) := by
  refine defG_ok F sc_pot (fun cdv A outer s H E hr hg => have nd := sc_pot.nd
    (jss_cons (js_set 2 (je_add je_int (je_mul je_int (je_var 1))) nd)
      (jss_cons (js_for (passes_of rfl) rfl (ji_list (je_slL mkP_ok (je_var 0) jo_none (jo_some je_int))) (jg_name 3 nd) (jss_one (js_set 2 (je_mod (je_callTy call_int1 gInt_ok rfl T.n_int (by decide +kernel) (ja_cons (je_add (je_add (je_mul (je_var 2) je_int) (je_mod (je_callTy call_int1 gInt_ok rfl T.n_int (by decide +kernel) (ja_cons (je_var 3) ja_nil)) je_int)) je_int) ja_nil)) je_int) nd)))
      (jss_cons (js_set 4 (je_if (jt_lt (je_var 1) (je_callB call_len_seq gLenL_ok rfl T.n_len (by decide +kernel) (ja_cons (je_var 0) ja_nil))) (je_callTy call_int1 gInt_ok rfl T.n_int (by decide +kernel) (ja_cons (je_ixL (je_var 0) (je_var 1)) ja_nil)) (je_mul je_int (je_var 1))) nd)
      (jss_one (js_ret (je_lst mkC_ok (ja_cons (je_if (jt_ge (je_callB call_abs gAbs_ok rfl T.n_abs (by decide +kernel) (ja_cons (je_var 4) ja_nil)) (je_pow je_int je_int)) (je_callB call_abs gAbs_ok rfl T.n_abs (by decide +kernel) (ja_cons (je_var 4) ja_nil)) je_int) (ja_cons (je_mod (je_callTy call_int1 gInt_ok rfl T.n_int (by decide +kernel) (ja_cons (je_add (je_var 2) (je_mod (je_var 4) je_int)) ja_nil)) je_int) ja_nil))))))))) ?_
  intro ds c0 Q X hQ hX hl h
  obtain ⟨hp, h⟩ := h
  split at hp
  · rename_i xs k
    obtain ⟨⟨ns, rfl, hn⟩, hk0, hk1⟩ := hp
    simp only [sSeq, sAsg, sIf, sFor, sRet, sRetN, sNext, sPar, wB, wNot, wAnd, wOr, wIf, w2, gI, gIC, gAdd, DL.gSub, gMul, gDiv, gMod, gPow, gLt, gLe, gGt, gGe, gIxL, lstD, atI, ixN, wVar, wC, wNeg, startD, gSet, gAt, g3L, DL.wCall, aCons, aNil, g1I, g2I, gInt, gAbs, gMax2, gMin2, gLenL, wLst, wTup, mkP, mkC, gCat, lstT, iSeq, iR1, iR2, oNone, oSome, wSl, gSlL, wFn, wDct0, wMkE0]
    refine ⟨mulW64 (by decide) (by omega), ?_⟩
    refine forL_cps (fun _ env c => ∃ (b : Int) (x : Option D), env = [some (.rol (ns.map D.int)), some (.int k), some (.int b), x, none] ∧ 0 ≤ b ∧ b < 2038074743 ∧ c0 = c) _ [] _ _ ⟨_, none, rfl, by omega, by omega, rfl⟩ ?_ ?_
    · rintro pre d post env c N e ⟨b, x, rfl, hb0, hb1, rfl⟩ hN
      have hd : d ∈ ns.map D.int := by
        have : d ∈ cutD (ns.map D.int) none (some 11) := by
          rw [List.nil_append] at e
          rw [e]; simp
        exact List.mem_of_mem_drop (List.mem_of_mem_take this)
      obtain ⟨y, hy, rfl⟩ := List.mem_map.mp hd
      have z1 := Int.emod_nonneg y (b := 2038074743) (by decide)
      have z2 := Int.emod_lt_of_pos y (b := 2038074743) (by decide)
      simp [sSeq, sAsg, sIf, sFor, sRet, sRetN, sNext, sPar, wB, wNot, wAnd, wOr, wIf, w2, gI, gIC, gAdd, DL.gSub, gMul, gDiv, gMod, gPow, gLt, gLe, gGt, gGe, gIxL, lstD, atI, ixN, wVar, wC, wNeg, startD, gSet, gAt, g3L, DL.wCall, aCons, aNil, g1I, g2I, gInt, gAbs, gMax2, gMin2, gLenL, wLst, wTup, mkP, mkC, gCat, lstT, iSeq, iR1, iR2, oNone, oSome, wSl, gSlL, wFn, wDct0, wMkE0]
      refine ⟨mulW64 (by omega) (by decide), ?_⟩
      exact hN _ _ ⟨_, _, rfl, Int.emod_nonneg _ (by decide), Int.emod_lt_of_pos _ (by decide), rfl⟩
    · rintro env c ⟨b, x, rfl, hb0, hb1, rfl⟩
      have fin : ∀ e z : Int, Q (.cell c0.length) (c0 ++ [.lst [.int e, .int (z % 2038074743)]]) := fun e z => h _ _ ⟨rfl, _, ⟨_, _, rfl, Int.emod_nonneg _ (by decide), Int.emod_lt_of_pos _ (by decide)⟩, rfl⟩
      have pw : CPow 10 17 := ⟨by decide, by decide, by decide⟩
      by_cases hk : k < ns.length
      · have hlt : k.toNat < ns.length := by omega
        have e : (ns.map D.int)[k.toNat]? = some (.int ns[k.toNat]) := by rw [List.getElem?_map, List.getElem?_eq_getElem hlt]; rfl
        simp [hk, hk0, e]
        refine ⟨pw, ?_⟩
        exact ite_both ⟨sz (by decide), fin _ _⟩ ⟨sz (by decide), fin _ _⟩
      · simp [hk]
        refine ⟨mulW64 (by decide) (by omega), pw, ?_⟩
        exact ite_both ⟨sz (by decide), fin _ _⟩ ⟨sz (by decide), fin _ _⟩
  · exact hp.elim
theorem gIs_ex (T : Txt K mg c) {i : Nat} (hi : i < 22) {d : D} {j : Nat} (hj : j < 25) {c' : Cells} {Q : QE} {X : XP} (k : Q (.bl (i == j || under i == j)) c') : gIs K [exD c i d, .obj (c j)] c' Q X := by
  refine ⟨.ref (c i), .ref (c j), _, ?_, .own _, T.kit i hi j hj, k⟩
  have x := T.xI i hi
  unfold exD
  repeat' split
  all_goals first | exact .exc x | exact .exc0 x
theorem ty_ex (T : Txt K mg c) {i : Nat} (hi : i < 22) {d : D} {c' : Cells} : TyOfD K c' (exD c i d) (.ref (c i)) := by
  have x := T.xI i hi
  unfold exD
  repeat' split
  all_goals first | exact .exc x | exact .exc0 x
theorem gIs_un (T : Txt K mg c) {i : Nat} (hi : i < 22) {d : D} {j : Nat} (hj : 22 ≤ j ∧ j < 25) {c' : Cells} {Q : QE} {X : XP} (k : Q (.bl (under i == j)) c') : gIs K [exD c i d, .obj (c j)] c' Q X := by
  refine gIs_ex T hi hj.2 ?_
  have : (i == j) = false := by simp; omega
  rw [this]; exact k
theorem gIs_V (T : Txt K mg c) {i : Nat} (hi : i < 22) {d : D} {c' : Cells} {Q : QE} {X : XP} (k : Q (.bl (under i == 22)) c') : gIs K [exD c i d, .ty "ValueError"] c' Q X := ⟨_, _, _, ty_ex T hi, .ty _, T.kit22 i hi, k⟩
theorem gIs_L (T : Txt K mg c) {i : Nat} (hi : i < 22) {d : D} {c' : Cells} {Q : QE} {X : XP} (k : Q (.bl (under i == 23)) c') : gIs K [exD c i d, .ty "LookupError"] c' Q X := ⟨_, _, _, ty_ex T hi, .ty _, T.kit23 i hi, k⟩
theorem gIs_A (T : Txt K mg c) {i : Nat} (hi : i < 22) {d : D} {c' : Cells} {Q : QE} {X : XP} (k : Q (.bl (under i == 24)) c') : gIs K [exD c i d, .ty "ArithmeticError"] c' Q X := ⟨_, _, _, ty_ex T hi, .ty _, T.kit24 i hi, k⟩
theorem ok_classes (T : Txt K mg c) (F : Fun K "_law_classes" "_law_classes" s_classes f fd) : FnG P w K mg base 1 f fd P_classes (wf_classes c) := by
  refine defG_ok F sc_classes (fun cdv A outer s H E hr hg => have nd := sc_classes.nd
    (jss_cons (js_set 1 (je_lst mkP_ok (ja_cons (je_callB call_isD (gIs_ok (K := K)) rfl T.n_isinstance (by decide +kernel) (ja_cons (je_var 0) (ja_cons (je_glob rfl T.g0) ja_nil))) (ja_cons (je_callB call_isD (gIs_ok (K := K)) rfl T.n_isinstance (by decide +kernel) (ja_cons (je_var 0) (ja_cons (je_glob rfl T.g1) ja_nil))) (ja_cons (je_callB call_isD (gIs_ok (K := K)) rfl T.n_isinstance (by decide +kernel) (ja_cons (je_var 0) (ja_cons (je_glob rfl T.g2) ja_nil))) ja_nil)))) nd)
      (jss_cons (js_set 1 (je_cat mkP_ok (je_var 1) (je_lst mkP_ok (ja_cons (je_callB call_isD (gIs_ok (K := K)) rfl T.n_isinstance (by decide +kernel) (ja_cons (je_var 0) (ja_cons (je_glob rfl T.g3) ja_nil))) (ja_cons (je_callB call_isD (gIs_ok (K := K)) rfl T.n_isinstance (by decide +kernel) (ja_cons (je_var 0) (ja_cons (je_glob rfl T.g4) ja_nil))) ja_nil)))) nd)
      (jss_cons (js_set 1 (je_cat mkP_ok (je_var 1) (je_lst mkP_ok (ja_cons (je_callB call_isD (gIs_ok (K := K)) rfl T.n_isinstance (by decide +kernel) (ja_cons (je_var 0) (ja_cons (je_glob rfl T.g5) ja_nil))) (ja_cons (je_callB call_isD (gIs_ok (K := K)) rfl T.n_isinstance (by decide +kernel) (ja_cons (je_var 0) (ja_cons (je_glob rfl T.g6) ja_nil))) ja_nil)))) nd)
      (jss_cons (js_set 1 (je_cat mkP_ok (je_var 1) (je_lst mkP_ok (ja_cons (je_callB call_isD (gIs_ok (K := K)) rfl T.n_isinstance (by decide +kernel) (ja_cons (je_var 0) (ja_cons (je_glob rfl T.g7) ja_nil))) (ja_cons (je_callB call_isD (gIs_ok (K := K)) rfl T.n_isinstance (by decide +kernel) (ja_cons (je_var 0) (ja_cons (je_glob rfl T.g8) ja_nil))) ja_nil)))) nd)
      (jss_cons (js_set 1 (je_cat mkP_ok (je_var 1) (je_lst mkP_ok (ja_cons (je_callB call_isD (gIs_ok (K := K)) rfl T.n_isinstance (by decide +kernel) (ja_cons (je_var 0) (ja_cons (je_glob rfl T.g9) ja_nil))) (ja_cons (je_callB call_isD (gIs_ok (K := K)) rfl T.n_isinstance (by decide +kernel) (ja_cons (je_var 0) (ja_cons (je_glob rfl T.g10) ja_nil))) ja_nil)))) nd)
      (jss_cons (js_set 1 (je_cat mkP_ok (je_var 1) (je_lst mkP_ok (ja_cons (je_callB call_isD (gIs_ok (K := K)) rfl T.n_isinstance (by decide +kernel) (ja_cons (je_var 0) (ja_cons (je_glob rfl T.g11) ja_nil))) (ja_cons (je_callB call_isD (gIs_ok (K := K)) rfl T.n_isinstance (by decide +kernel) (ja_cons (je_var 0) (ja_cons (je_glob rfl T.g12) ja_nil))) ja_nil)))) nd)
      (jss_cons (js_set 1 (je_cat mkP_ok (je_var 1) (je_lst mkP_ok (ja_cons (je_callB call_isD (gIs_ok (K := K)) rfl T.n_isinstance (by decide +kernel) (ja_cons (je_var 0) (ja_cons (je_glob rfl T.g13) ja_nil))) (ja_cons (je_callB call_isD (gIs_ok (K := K)) rfl T.n_isinstance (by decide +kernel) (ja_cons (je_var 0) (ja_cons (je_glob rfl T.g14) ja_nil))) ja_nil)))) nd)
      (jss_cons (js_set 1 (je_cat mkP_ok (je_var 1) (je_lst mkP_ok (ja_cons (je_callB call_isD (gIs_ok (K := K)) rfl T.n_isinstance (by decide +kernel) (ja_cons (je_var 0) (ja_cons (je_glob rfl T.g15) ja_nil))) (ja_cons (je_callB call_isD (gIs_ok (K := K)) rfl T.n_isinstance (by decide +kernel) (ja_cons (je_var 0) (ja_cons (je_glob rfl T.g16) ja_nil))) ja_nil)))) nd)
      (jss_cons (js_set 1 (je_cat mkP_ok (je_var 1) (je_lst mkP_ok (ja_cons (je_callB call_isD (gIs_ok (K := K)) rfl T.n_isinstance (by decide +kernel) (ja_cons (je_var 0) (ja_cons (je_glob rfl T.g17) ja_nil))) (ja_cons (je_callB call_isD (gIs_ok (K := K)) rfl T.n_isinstance (by decide +kernel) (ja_cons (je_var 0) (ja_cons (je_glob rfl T.g18) ja_nil))) (ja_cons (je_callB call_isD (gIs_ok (K := K)) rfl T.n_isinstance (by decide +kernel) (ja_cons (je_var 0) (ja_cons (je_glob rfl T.g19) ja_nil))) ja_nil))))) nd)
      (jss_cons (js_set 1 (je_cat mkP_ok (je_var 1) (je_lst mkP_ok (ja_cons (je_callB call_isD (gIs_ok (K := K)) rfl T.n_isinstance (by decide +kernel) (ja_cons (je_var 0) (ja_cons (je_glob rfl T.g20) ja_nil))) (ja_cons (je_callB call_isD (gIs_ok (K := K)) rfl T.n_isinstance (by decide +kernel) (ja_cons (je_var 0) (ja_cons (je_glob rfl T.g21) ja_nil))) ja_nil)))) nd)
      (jss_one (js_ret (je_cntB (je_var 1) (ja_cons je_bl ja_nil))))))))))))))) ?_
  intro ds c0 Q X hQ hX hl h
  obtain ⟨⟨i, d, hi, rfl⟩, h⟩ := h
  have h := h _ _ ⟨rfl, rfl⟩
  simp [sSeq, sAsg, sIf, sFor, sRet, sRetN, sNext, sPar, wB, wNot, wAnd, wOr, wIf, w2, gI, gIC, gAdd, DL.gSub, gMul, gDiv, gMod, gPow, gLt, gLe, gGt, gGe, gIxL, lstD, atI, ixN, wVar, wC, wNeg, startD, gSet, gAt, g3L, DL.wCall, aCons, aNil, g1I, g2I, gInt, gAbs, gMax2, gMin2, gLenL, wLst, wTup, mkP, mkC, gCat, lstT, iSeq, iR1, iR2, oNone, oSome, wSl, gSlL, wFn, wDct0, wMkE0, wBM]
  repeat' (first | refine gIs_ex T hi (by decide) ?_ | refine And.intro (sz (by decide)) ?_)
  refine ⟨⟨_, rfl⟩, ?_⟩
  have key : ∀ i, i < 22 → ((List.range 22).map fun j => (i == j || under i == j)).countP (fun b => b == true) = 1 := by decide
  have h2 : Q (.int ((((List.range 22).map fun j => (i == j || under i == j)).countP (fun b => b == true) : Nat) : Int)) c0 := by rw [key i hi]; exact h
  exact h2
theorem ok_kin (T : Txt K mg c) (F : Fun K "_law_kin" "_law_kin" s_kin f fd) : FnG P w K mg base 1 f fd P_kin (wf_kin c) := by
  refine defG_ok F sc_kin (fun cdv A outer s H E hr hg => have nd := sc_kin.nd
    (jss_cons (js_set 1 (je_lst mkP_ok (ja_cons (je_callB call_isD (gIs_ok (K := K)) rfl T.n_isinstance (by decide +kernel) (ja_cons (je_var 0) (ja_cons (je_glob rfl T.g22) ja_nil))) (ja_cons (je_callB call_isD (gIs_ok (K := K)) rfl T.n_isinstance (by decide +kernel) (ja_cons (je_var 0) (ja_cons (je_glob rfl T.g23) ja_nil))) (ja_cons (je_callB call_isD (gIs_ok (K := K)) rfl T.n_isinstance (by decide +kernel) (ja_cons (je_var 0) (ja_cons (je_glob rfl T.g24) ja_nil))) ja_nil)))) nd)
      (jss_one (js_ret (je_cat mkP_ok (je_var 1) (je_lst mkP_ok (ja_cons (je_callB call_isD (gIs_ok (K := K)) rfl T.n_isinstance (by decide +kernel) (ja_cons (je_var 0) (ja_cons (je_ty (n := "ValueError") rfl T.n_ValueError (by decide +kernel)) ja_nil))) (ja_cons (je_callB call_isD (gIs_ok (K := K)) rfl T.n_isinstance (by decide +kernel) (ja_cons (je_var 0) (ja_cons (je_ty (n := "LookupError") rfl T.n_LookupError (by decide +kernel)) ja_nil))) (ja_cons (je_callB call_isD (gIs_ok (K := K)) rfl T.n_isinstance (by decide +kernel) (ja_cons (je_var 0) (ja_cons (je_ty (n := "ArithmeticError") rfl T.n_ArithmeticError (by decide +kernel)) ja_nil))) ja_nil))))))))) ?_
  intro ds c0 Q X hQ hX hl h
  obtain ⟨⟨i, d⟩, ⟨hi, rfl⟩, h⟩ := h
  have h := h _ _ ⟨rfl, rfl⟩
  simp [sSeq, sAsg, sIf, sFor, sRet, sRetN, sNext, sPar, wB, wNot, wAnd, wOr, wIf, w2, gI, gIC, gAdd, DL.gSub, gMul, gDiv, gMod, gPow, gLt, gLe, gGt, gGe, gIxL, lstD, atI, ixN, wVar, wC, wNeg, startD, gSet, gAt, g3L, DL.wCall, aCons, aNil, g1I, g2I, gInt, gAbs, gMax2, gMin2, gLenL, wLst, wTup, mkP, mkC, gCat, lstT, iSeq, iR1, iR2, oNone, oSome, wSl, gSlL, wFn, wDct0, wMkE0]
  repeat' (first | refine gIs_un T hi (by decide) ?_ | refine gIs_V T hi ?_ | refine gIs_L T hi ?_ | refine gIs_A T hi ?_ | refine And.intro (sz (by decide)) ?_)
  exact h
theorem vE (T : Txt K mg c) : ∀ i, i < 12 → ExcV K (c i) "value"
  | 0, _ => T.e0 | 1, _ => T.e1 | 2, _ => T.e2 | 3, _ => T.e3 | 4, _ => T.e4 | 5, _ => T.e5
  | 6, _ => T.e6 | 7, _ => T.e7 | 8, _ => T.e8 | 9, _ => T.e9 | 10, _ => T.e10 | 11, _ => T.e11
  | n + 12, h => absurd h (by omega)
theorem iE (T : Txt K mg c) : ∀ i, 14 ≤ i → i < 18 → ExcV K (c i) "index"
  | 14, _, _ => T.e14 | 15, _, _ => T.e15 | 16, _, _ => T.e16 | 17, _, _ => T.e17
  | n + 18, _, h => absurd h (by omega)
theorem exV {i : Nat} (h : i < 12) {d : D} : exD c i d = .exc (c i) ["value"] [d] := by unfold exD; rw [if_pos h]
theorem exI {i : Nat} (h1 : 14 ≤ i) (h2 : i < 18) {d : D} : exD c i d = .exc (c i) ["index"] [d] := by
  unfold exD
  rw [if_neg (by omega), if_neg (by omega), if_neg (by omega), if_pos h2]
theorem ok_kept_right (T : Txt K mg c) (c_law_values : Cal P w K mg base 2 "_law_values" P_values (wf_values c)) (c_law_indexes : Cal P w K mg base 2 "_law_indexes" P_indexes (wf_indexes c)) (F : Fun K "_law_kept_right" "_law_kept_right" s_kept_right f fd) : FnG P w K mg base 3 f fd P_kept_right (wf_kept_right c) := by
  refine defG_ok F sc_kept_right (fun cdv A outer s H E hr hg => have nd := sc_kept_right.nd
    (jss_cons (js_par 1 2 rfl nd (ja_cons (je_cal c_law_values hg wfP_mono (hr.mono (by decide)) rfl (takes_of rfl rfl rfl rfl) (ja_cons (je_var 0) ja_nil)) (ja_cons (je_cal c_law_indexes hg wfP_mono (hr.mono (by decide)) rfl (takes_of rfl rfl rfl rfl) (ja_cons (je_var 0) ja_nil)) ja_nil)))
      (jss_cons (js_set 3 (je_lst mkP_ok (ja_cons (je_lc mkP_ok rfl nd (ji_list (je_var 1)) (own := [("_law_e", 4)]) (blkOk_by (N := N_kept_right) (sc := defScope s_kept_right) (by decide +kernel)) bind1_ok (fun _ _ _ _ _ => pg_name (i := 4) nd rfl (Or.inl rfl)) (fun _ _ _ _ _ => jts_nil) (fun _ _ _ _ _ => (je_fldK K (je_var 4)))) (ja_cons (je_lc mkP_ok rfl nd (ji_list (je_var 2)) (own := [("_law_e", 4)]) (blkOk_by (N := N_kept_right) (sc := defScope s_kept_right) (by decide +kernel)) bind1_ok (fun _ _ _ _ _ => pg_name (i := 4) nd rfl (Or.inl rfl)) (fun _ _ _ _ _ => jts_nil) (fun _ _ _ _ _ => (je_fldK K (je_var 4)))) ja_nil))) nd)
      (jss_cons (js_set 5 (je_lst mkP_ok (ja_cons (je_fldK K (je_mkEv T.e12 (hr.mono (by decide)) rfl T.g12 (ja_cons (je_var 0) ja_nil))) (ja_cons (je_fldK K (je_mkEKv T.e12 (hr.mono (by decide)) rfl T.g12 (je_var 0))) (ja_cons (je_fldK K (je_mkEv T.e13 (hr.mono (by decide)) rfl T.g13 (ja_cons (je_var 0) ja_nil))) ja_nil)))) nd)
      (jss_cons (js_set 5 (je_cat mkP_ok (je_var 5) (je_lst mkP_ok (ja_cons (je_fldK K (je_mkEKv T.e13 (hr.mono (by decide)) rfl T.g13 (je_var 0))) (ja_cons (je_fldK K (je_mkEv T.e20 (hr.mono (by decide)) rfl T.g20 (ja_cons (je_var 0) ja_nil))) (ja_cons (je_fldK K (je_mkEKv T.e20 (hr.mono (by decide)) rfl T.g20 (je_var 0))) ja_nil))))) nd)
      (jss_cons (js_set 5 (je_cat mkP_ok (je_var 5) (je_lst mkP_ok (ja_cons (je_fldK K (je_mkEv T.e21 (hr.mono (by decide)) rfl T.g21 (ja_cons (je_var 0) ja_nil))) (ja_cons (je_fldK K (je_mkEKv T.e21 (hr.mono (by decide)) rfl T.g21 (je_var 0))) ja_nil)))) nd)
      (jss_one (js_ret (je_eq (je_callB (call_reprL hg hr.u100) gRepr_ok rfl T.n_repr (by decide +kernel) (ja_cons (je_cat mkP_ok (je_var 3) (je_var 5)) ja_nil)) (je_callB (call_reprL hg hr.u100) gRepr_ok rfl T.n_repr (by decide +kernel) (ja_cons (je_cat mkP_ok (je_lst mkP_ok (ja_cons (je_repL mkP_ok (je_lst mkP_ok (ja_cons (je_var 0) ja_nil)) je_int) (ja_cons (je_repL mkP_ok (je_lst mkP_ok (ja_cons (je_var 0) ja_nil)) je_int) ja_nil))) (je_repL mkP_ok (je_lst mkP_ok (ja_cons (je_var 0) ja_nil)) je_int)) ja_nil))))))))))) ?_
  intro ds c0 Q X hQ hX hl h
  obtain ⟨⟨d, rfl, h1, h2, h3, h4⟩, h⟩ := h
  have h := h _ _ ⟨rfl, rfl⟩
  simp [sSeq, sAsg, sIf, sFor, sRet, sRetN, sNext, sPar, wB, wNot, wAnd, wOr, wIf, w2, gI, gIC, gAdd, DL.gSub, gMul, gDiv, gMod, gPow, gLt, gLe, gGt, gGe, gIxL, lstD, atI, ixN, wVar, wC, wNeg, startD, gSet, gAt, g3L, DL.wCall, aCons, aNil, g1I, g2I, gInt, gAbs, gMax2, gMin2, gLenL, wLst, wTup, mkP, mkC, gCat, lstT, iSeq, iR1, iR2, oNone, oSome, wSl, gSlL, wFn, wDct0, wMkE0]
  refine ⟨⟨d, rfl⟩, ?_⟩
  rintro r1 c1 ⟨d', e, rfl, rfl⟩
  cases e
  refine ⟨⟨d, rfl⟩, ?_⟩
  rintro r2 c1 ⟨d', e, rfl, rfl⟩
  cases e
  have k12 : ∀ i ∈ [0, 1, 2, 3, 4, 5, 6, 7, 8, 9, 10, 11, 0, 1, 2, 3, 4, 5, 6, 7, 8, 9, 10, 11], i < 12 := by decide
  have k18 : ∀ i ∈ [14, 15, 16, 17, 14, 15, 16, 17], 14 ≤ i ∧ i < 18 := by decide
  refine compL_map fldD _ _ ?_ (sz (show 24 ≤ 1000 by decide)) ?_
  · intro x hx Q X k
    obtain ⟨i, hi, rfl⟩ := List.mem_map.mp hx
    have hi := k12 i hi
    rw [exV hi] at k ⊢
    exact ⟨rfl, (vE T i hi).g, k⟩
  refine compL_map fldD _ _ ?_ (sz (show 8 ≤ 1000 by decide)) ?_
  · intro x hx Q X k
    obtain ⟨i, hi, rfl⟩ := List.mem_map.mp hx
    have hi := k18 i hi
    rw [exI hi.1 hi.2] at k ⊢
    exact ⟨rfl, (iE T i hi.1 hi.2).g, k⟩
  refine ⟨sz (by decide), ?_⟩
  refine ⟨d, rfl, rfl, T.e12.g, ?_⟩
  refine ⟨d, rfl, rfl, T.e12.g, ?_⟩
  refine ⟨d, rfl, rfl, T.e13.g, sz (by decide), ?_⟩
  refine ⟨d, rfl, rfl, T.e13.g, ?_⟩
  refine ⟨d, rfl, rfl, T.e20.g, ?_⟩
  refine ⟨d, rfl, rfl, T.e20.g, sz (by decide), sz (by decide), ?_⟩
  refine ⟨d, rfl, rfl, T.e21.g, ?_⟩
  refine ⟨d, rfl, rfl, T.e21.g, sz (by decide), sz (by decide), sz (by decide), ?_⟩
  show gRepr [.lst (kr d)] _ _ _
  refine ⟨h1, h2, h3, h4, sz (by decide), ?_⟩
  refine gRepL_one (n := 24) (by decide) ⟨sz (by decide), ?_⟩
  refine gRepL_one (n := 8) (by decide) ⟨sz (by decide), sz (by decide), ?_⟩
  refine gRepL_one (n := 8) (by decide) ⟨sz (show 10 ≤ 1000 by decide), ?_⟩
  refine ⟨h1, h2, h3, h4, ?_⟩
  have e : scalD (.str (PyData.list (pydL (kr d))).shown) (.str (PyData.list (pydL (kr d))).shown) = some true := by simp [scalD]
  show gEq (.str _) (.str (PyData.list (pydL (kr d))).shown) _ _ _
  unfold gEq
  rw [e]
  exact h
def things : List D := [.non, .int 0, .bl true, .str "a", .tup [.int 1, .str "b"], .lst [.int 2], .dct [] [], .int 10000000000000000000000000000000000000000, .tup [], .int (-1)]
theorem good : ∀ t ∈ things, Good t := by
  intro t ht
  simp only [things, List.mem_cons, List.not_mem_nil, or_false] at ht
  rcases ht with rfl | rfl | rfl | rfl | rfl | rfl | rfl | rfl | rfl | rfl
  all_goals exact ⟨by decide +kernel, by decide +kernel, Nat.le_trans (shown_le _) (by decide +kernel), by decide +kernel⟩
theorem kin_eq (b : Nat) {i : Nat} (hi : i < 22) (hb : under i = b) {env : DL.Env} {t : D} {c0 : Cells} {Q : QE} {X : XP} (he : env[5]? = some (some (exD c i t))) (k : Q (.bl true) c0) :
    w2 gEqD (wFn 1 (wf_kin c) (aCons (wVar 5) aNil)) (wLst mkP (aCons (wC (.bl (b == 22))) (aCons (wC (.bl (b == 23))) (aCons (wC (.bl (b == 24))) (aCons (wC (.bl (b == 22))) (aCons (wC (.bl (b == 23))) (aCons (wC (.bl (b == 24))) aNil))))))) env c0 Q X := by
  subst hb
  simp only [w2, wFn, aCons, aNil, wVar, he, wLst, wC, mkP]
  refine ⟨rfl, ⟨i, t⟩, ⟨hi, rfl⟩, ?_⟩
  rintro r c1 ⟨rfl, rfl⟩
  refine ⟨sz (show 6 ≤ 1000 by decide), ?_⟩
  dsimp only [List.map]
  generalize (under i == 22) = b1
  generalize (under i == 23) = b2
  generalize (under i == 24) = b3
  refine ⟨rfl, rfl, rfl, rfl, ?_⟩
  have e : PyData.eqv (pyd (.lst [.bl b1, .bl b2, .bl b3, .bl b1, .bl b2, .bl b3])) (pyd (.lst [.bl b1, .bl b2, .bl b3, .bl b1, .bl b2, .bl b3])) = true := by
    cases b1 <;> cases b2 <;> cases b3 <;> decide +kernel
  rw [e]; exact k
theorem ok_right (T : Txt K mg c) (c_law_of : Cal P w K mg base 2 "_law_of" P_of (wf_of c)) (c_law_values : Cal P w K mg base 2 "_law_values" P_values (wf_values c)) (c_law_indexes : Cal P w K mg base 2 "_law_indexes" P_indexes (wf_indexes c)) (c_law_kept_right : Cal P w K mg base 3 "_law_kept_right" P_kept_right (wf_kept_right c)) (c_law_kin : Cal P w K mg base 1 "_law_kin" P_kin (wf_kin c)) (c_law_classes : Cal P w K mg base 1 "_law_classes" P_classes (wf_classes c)) (F : Fun K "_law_right" "_law_right" s_right f fd) : FnG P w K mg base 4 f fd P_right (wf_right c) := by
  refine defG_ok F sc_right (fun cdv A outer s H E hr hg => have nd := sc_right.nd
    (jss_cons (js_set 1 (je_cal c_law_of hg wfP_mono (hr.mono (by decide)) rfl (takes_of rfl rfl rfl rfl) (ja_cons (je_var 0) (ja_cons (je_lst mkP_ok (ja_cons je_non (ja_cons je_int (ja_cons je_bl (ja_cons je_str (ja_cons (je_tup (ja_cons je_int (ja_cons je_str ja_nil))) (ja_cons (je_lst mkP_ok (ja_cons je_int ja_nil)) (ja_cons je_dct0 (ja_cons (je_pow je_int je_int) (ja_cons (je_tup ja_nil) (ja_cons (je_neg je_int) ja_nil))))))))))) ja_nil))) nd)
      (jss_cons (js_set 2 (je_cat mkP_ok (je_cat mkP_ok (je_cal c_law_values hg wfP_mono (hr.mono (by decide)) rfl (takes_of rfl rfl rfl rfl) (ja_cons (je_var 1) ja_nil)) (je_cal c_law_indexes hg wfP_mono (hr.mono (by decide)) rfl (takes_of rfl rfl rfl rfl) (ja_cons (je_var 1) ja_nil))) (je_lst mkP_ok (ja_cons (je_mkEv T.e12 (hr.mono (by decide)) rfl T.g12 (ja_cons (je_var 1) ja_nil)) (ja_cons (je_mkEKv T.e13 (hr.mono (by decide)) rfl T.g13 (je_var 1)) ja_nil)))) nd)
      (jss_cons (js_par 3 4 rfl nd (ja_cons (je_lst mkP_ok (ja_cons (je_mkE0v T.e18 rfl T.g18) (ja_cons (je_mkE0v T.e19 rfl T.g19) (ja_cons (je_mkEv T.e20 (hr.mono (by decide)) rfl T.g20 (ja_cons (je_var 1) ja_nil)) ja_nil)))) (ja_cons (je_lst mkP_ok (ja_cons (je_mkEKv T.e21 (hr.mono (by decide)) rfl T.g21 (je_var 1)) ja_nil)) ja_nil)))
      (jss_cons (js_if (jt_not (jt_val (je_cal c_law_kept_right hg wfP_mono (hr.mono (by decide)) rfl (takes_of rfl rfl rfl rfl) (ja_cons (je_var 1) ja_nil)))) (jss_one (js_ret je_bl)) jss_nil)
      (jss_cons (js_if (jt_not (jt_val (je_callB (cr_all rfl) gAll_ok rfl T.n_all (by decide +kernel) (ja_cons (je_lc mkP_ok rfl nd (ji_list (je_var 2)) (own := [("_law_e", 5)]) (blkOk_by (N := N_right) (sc := defScope s_right) (by decide +kernel)) bind1_ok (fun _ _ _ _ _ => pg_name (i := 5) nd rfl (Or.inl rfl)) (fun _ _ _ _ _ => jts_nil) (fun _ _ _ _ _ => (je_eqD hr.u64 (je_cal c_law_kin hg wfE_mono (hr.mono (by decide)) rfl takes0 (ja_cons (je_var 5) ja_nil)) (je_lst mkP_ok (ja_cons je_bl (ja_cons je_bl (ja_cons je_bl (ja_cons je_bl (ja_cons je_bl (ja_cons je_bl ja_nil)))))))))) ja_nil)))) (jss_one (js_ret je_bl)) jss_nil)
      (jss_cons (js_if (jt_not (jt_val (je_callB (cr_all rfl) gAll_ok rfl T.n_all (by decide +kernel) (ja_cons (je_lc mkP_ok rfl nd (ji_list (je_var 3)) (own := [("_law_e", 5)]) (blkOk_by (N := N_right) (sc := defScope s_right) (by decide +kernel)) bind1_ok (fun _ _ _ _ _ => pg_name (i := 5) nd rfl (Or.inl rfl)) (fun _ _ _ _ _ => jts_nil) (fun _ _ _ _ _ => (je_eqD hr.u64 (je_cal c_law_kin hg wfE_mono (hr.mono (by decide)) rfl takes0 (ja_cons (je_var 5) ja_nil)) (je_lst mkP_ok (ja_cons je_bl (ja_cons je_bl (ja_cons je_bl (ja_cons je_bl (ja_cons je_bl (ja_cons je_bl ja_nil)))))))))) ja_nil)))) (jss_one (js_ret je_bl)) jss_nil)
      (jss_cons (js_if (jt_not (jt_val (je_callB (cr_all rfl) gAll_ok rfl T.n_all (by decide +kernel) (ja_cons (je_lc mkP_ok rfl nd (ji_list (je_var 4)) (own := [("_law_e", 5)]) (blkOk_by (N := N_right) (sc := defScope s_right) (by decide +kernel)) bind1_ok (fun _ _ _ _ _ => pg_name (i := 5) nd rfl (Or.inl rfl)) (fun _ _ _ _ _ => jts_nil) (fun _ _ _ _ _ => (je_eqD hr.u64 (je_cal c_law_kin hg wfE_mono (hr.mono (by decide)) rfl takes0 (ja_cons (je_var 5) ja_nil)) (je_lst mkP_ok (ja_cons je_bl (ja_cons je_bl (ja_cons je_bl (ja_cons je_bl (ja_cons je_bl (ja_cons je_bl ja_nil)))))))))) ja_nil)))) (jss_one (js_ret je_bl)) jss_nil)
      (jss_cons (js_set 6 (je_lst mkP_ok (ja_cons (je_globIx rfl T.m_MOST_PARTS) (ja_cons (je_globIx rfl T.m_MOST_FIELDS) (ja_cons (je_globIx rfl T.m_MOST_WIDTH) (ja_cons (je_globIx rfl T.m_MOST_GROUP) (ja_cons (je_globIx rfl T.m_MOST_BOUND) (ja_cons (je_globIx rfl T.m_MOST_LENGTH) (ja_cons (je_globIx rfl T.m_MOST_KINDS) ja_nil)))))))) nd)
      (jss_cons (js_if (jt_neD hr.u64 (je_var 6) (je_lst mkP_ok (ja_cons je_int (ja_cons je_int (ja_cons je_int (ja_cons je_int (ja_cons (je_pow je_int je_int) (ja_cons je_int (ja_cons je_int ja_nil))))))))) (jss_one (js_ret je_bl)) jss_nil)
      (jss_one (js_ret (je_callB (cr_all rfl) gAll_ok rfl T.n_all (by decide +kernel) (ja_cons (je_lc mkP_ok rfl nd (ji_list (je_cat mkP_ok (je_cat mkP_ok (je_var 2) (je_var 3)) (je_var 4))) (own := [("_law_e", 5)]) (blkOk_by (N := N_right) (sc := defScope s_right) (by decide +kernel)) bind1_ok (fun _ _ _ _ _ => pg_name (i := 5) nd rfl (Or.inl rfl)) (fun _ _ _ _ _ => jts_nil) (fun _ _ _ _ _ => (je_eq (je_cal c_law_classes hg wfP_mono (hr.mono (by decide)) rfl takes0 (ja_cons (je_var 5) ja_nil)) je_int))) ja_nil)))))))))))))) ?_
  intro ds c0 Q X hQ hX hl h
  obtain ⟨hp, h⟩ := h
  split at hp
  · rename_i j
    obtain ⟨m, hm, hP⟩ := hp
    simp [sSeq, sAsg, sIf, sFor, sRet, sRetN, sNext, sPar, wB, wNot, wAnd, wOr, wIf, w2, gI, gIC, gAdd, DL.gSub, gMul, gDiv, gMod, gPow, gLt, gLe, gGt, gGe, gIxL, lstD, atI, ixN, wVar, wC, wNeg, startD, gSet, gAt, g3L, DL.wCall, aCons, aNil, g1I, g2I, gInt, gAbs, gMax2, gMin2, gLenL, wLst, wTup, mkP, mkC, gCat, lstT, iSeq, iR1, iR2, oNone, oSome, wSl, gSlL, wFn, wDct0, wMkE0]
    refine ⟨sz (by decide), sz (by decide), ⟨by decide, by decide, by decide⟩, sz (by decide), ⟨⟨m, hm, hP⟩, by show 0 < 10; decide, by show 10 < 1000; decide⟩, ?_⟩
    rintro t c1 ⟨ht, m2, hP2, rfl⟩
    have hG : Good t := good t ht
    refine ⟨⟨t, rfl⟩, ?_⟩
    rintro r1 c1 ⟨t', e, rfl, rfl⟩
    cases e
    refine ⟨⟨t, rfl⟩, ?_⟩
    rintro r2 c1 ⟨t', e, rfl, rfl⟩
    cases e
    refine ⟨sz (show 32 ≤ 1000 by decide), t, rfl, t, rfl, sz (by decide), sz (show 34 ≤ 1000 by decide), t, rfl, sz (by decide), t, rfl, sz (by decide), ⟨t, rfl, hG⟩, ?_⟩
    rintro r3 c1 ⟨rfl, rfl⟩
    dsimp only
    rw [if_pos rfl]
    have e1 : vals c t ++ (idxs c t ++ [.exc (c 12) ["setting"] [t], .exc (c 13) ["end"] [t]]) = [0, 1, 2, 3, 4, 5, 6, 7, 8, 9, 10, 11, 0, 1, 2, 3, 4, 5, 6, 7, 8, 9, 10, 11, 14, 15, 16, 17, 14, 15, 16, 17, 12, 13].map fun i => exD c i t := rfl
    have k1 : ∀ i ∈ [0, 1, 2, 3, 4, 5, 6, 7, 8, 9, 10, 11, 0, 1, 2, 3, 4, 5, 6, 7, 8, 9, 10, 11, 14, 15, 16, 17, 14, 15, 16, 17, 12, 13], i < 22 ∧ under i = 22 := by decide
    refine compL_map (fun _ => .bl true) _ _ ?_ (sz (show 34 ≤ 1000 by decide)) ?_
    · intro x hx Q X k
      rw [e1] at hx
      obtain ⟨i, hi, rfl⟩ := List.mem_map.mp hx
      exact kin_eq 22 (k1 i hi).1 (k1 i hi).2 rfl k
    dsimp only [mkP, List.nil_append]
    refine gAll_true ?_
    dsimp only
    rw [if_pos rfl]
    have k2 : ∀ i ∈ [18, 19, 20], i < 22 ∧ under i = 23 := by decide
    have e2 : [D.exc0 (c 18), .exc0 (c 19), .exc (c 20) ["place"] [t]] = [18, 19, 20].map fun i => exD c i t := rfl
    refine compL_map (fun _ => .bl true) _ [] ?_ (sz (show 3 ≤ 1000 by decide)) ?_
    · intro x hx Q X k
      rw [e2] at hx
      obtain ⟨i, hi, rfl⟩ := List.mem_map.mp hx
      exact kin_eq 23 (k2 i hi).1 (k2 i hi).2 rfl k
    dsimp only [mkP, List.nil_append]
    refine gAll_true ?_
    dsimp only
    rw [if_pos rfl]
    have e3 : [D.exc (c 21) ["limit"] [t]] = [21].map fun i => exD c i t := rfl
    refine compL_map (fun _ => .bl true) _ [] ?_ (sz (show 1 ≤ 1000 by decide)) ?_
    · intro x hx Q X k
      rw [e3] at hx
      obtain ⟨i, hi, rfl⟩ := List.mem_map.mp hx
      obtain rfl : i = 21 := by simpa using hi
      exact kin_eq 24 (by decide) rfl rfl k
    dsimp only [mkP, List.nil_append]
    refine gAll_true ?_
    dsimp only
    rw [if_pos rfl]
    refine ⟨sz (by decide), ⟨by decide, by decide, by decide⟩, sz (by decide), rfl, rfl, rfl, rfl, ?_⟩
    have e4 : PyData.eqv (pyd (.lst [.int 8, .int 4, .int 12, .int 4, .int 1000000000000, .int 400, .int 6])) (pyd (.lst [.int 8, .int 4, .int 12, .int 4, .int 1000000000000, .int 400, .int 6])) = true := by decide +kernel
    rw [e4]
    dsimp only
    rw [if_neg (by decide)]
    have k4 : ∀ i ∈ [0, 1, 2, 3, 4, 5, 6, 7, 8, 9, 10, 11, 0, 1, 2, 3, 4, 5, 6, 7, 8, 9, 10, 11, 14, 15, 16, 17, 14, 15, 16, 17, 12, 13, 18, 19, 20, 21], i < 22 := by decide
    have e5 : vals c t ++ (idxs c t ++ [.exc (c 12) ["setting"] [t], .exc (c 13) ["end"] [t]]) ++ [D.exc0 (c 18), .exc0 (c 19), .exc (c 20) ["place"] [t]] ++ [D.exc (c 21) ["limit"] [t]] = [0, 1, 2, 3, 4, 5, 6, 7, 8, 9, 10, 11, 0, 1, 2, 3, 4, 5, 6, 7, 8, 9, 10, 11, 14, 15, 16, 17, 14, 15, 16, 17, 12, 13, 18, 19, 20, 21].map fun i => exD c i t := rfl
    refine ⟨sz (show 37 ≤ 1000 by decide), sz (show 38 ≤ 1000 by decide), ?_⟩
    refine compL_map (fun _ => .bl true) _ [] ?_ (sz (show 38 ≤ 1000 by decide)) ?_
    · intro x hx Q X k
      rw [e5] at hx
      obtain ⟨i, hi, rfl⟩ := List.mem_map.mp hx
      refine ⟨rfl, ⟨i, t, k4 i hi, rfl⟩, ?_⟩
      rintro r c1 ⟨rfl, rfl⟩
      exact k
    dsimp only [mkP, List.nil_append]
    exact gAll_true (h _ _ ⟨rfl, m2, rfl⟩)
  · exact hp.elim
theorem ok_law (T : Txt K mg c) (c_law_right : Cal P w K mg base 4 "_law_right" P_right (wf_right c)) (c_law_pot : Cal P w K mg base 1 "_law_pot" P_pot (wf_pot c)) (F : Fun K "law" "law" s_law f fd) : FnG P w K mg base 5 f fd P_law (wf_law c) := by
  refine defG_ok F sc_law (fun cdv A outer s H E hr hg => have nd := sc_law.nd
    (jss_one (js_ret (je_callB (cr_all rfl) gAll_ok rfl T.n_all (by decide +kernel) (ja_cons (je_lc mkP_ok rfl nd (ji_range1 rfl T.n_range (ja_cons (je_callB (call_max2 rfl) gMax2_ok rfl T.n_max (by decide +kernel) (ja_cons je_int (ja_cons (je_callB (call_min2 rfl) gMin2_ok rfl T.n_min (by decide +kernel) (ja_cons (je_callB call_len_seq gLenL_ok rfl T.n_len (by decide +kernel) (ja_cons (je_var 0) ja_nil)) (ja_cons je_int ja_nil))) ja_nil))) ja_nil)) (own := [("_law_k", 1)]) (blkOk_by (N := N_law) (sc := defScope s_law) (by decide +kernel)) bind1_ok (fun _ _ _ _ _ => pg_name (i := 1) nd rfl (Or.inl rfl)) (fun _ _ _ _ _ => jts_nil) (fun _ _ _ _ _ => (je_cal c_law_right hg wfP_mono (hr.mono (by decide)) rfl takes0 (ja_cons (je_cal c_law_pot hg wfP_mono (hr.mono (by decide)) rfl takes0 (ja_cons (je_var 0) (ja_cons (je_var 1) ja_nil))) ja_nil)))) ja_nil))))) ?_
  intro ds c0 Q X hQ hX hl h
  obtain ⟨⟨ns, rfl, hn⟩, h⟩ := h
  have h := h _ _ ⟨rfl, rfl⟩
  simp [sSeq, sAsg, sIf, sFor, sRet, sRetN, sNext, sPar, wB, wNot, wAnd, wOr, wIf, w2, gI, gIC, gAdd, DL.gSub, gMul, gDiv, gMod, gPow, gLt, gLe, gGt, gGe, gIxL, lstD, atI, ixN, wVar, wC, wNeg, startD, gSet, gAt, g3L, DL.wCall, aCons, aNil, g1I, g2I, gInt, gAbs, gMax2, gMin2, gLenL, wLst, wTup, mkP, mkC, gCat, lstT, iSeq, iR1, iR2, oNone, oSome, wSl, gSlL, wFn, wDct0, wMkE0, wComp]
  generalize hM : (if 2 < if 5 < (ns.length : Int) then (5 : Int) else ns.length then if 5 < (ns.length : Int) then (5 : Int) else ns.length else 2) = M
  have hM2 : 0 ≤ M ∧ M ≤ 5 := by
    rw [← hM]
    repeat' split
    all_goals omega
  refine ⟨by omega, by omega, ?_⟩
  refine compL_cps (fun pre acc c => acc = pre.map (fun _ => D.bl true) ∧ ∃ g, c = c0 ++ g) _ [] [] _ ⟨rfl, [], by simp⟩ ?_ ?_
  · rintro pre d post acc c2 N e ⟨rfl, g, rfl⟩ hN
    have hd : d ∈ ups 0 M.toNat := by
      rw [List.nil_append] at e
      rw [e]; simp
    have hpre : pre.length ≤ 5 := by
      have := congrArg List.length e
      simp [ups] at this
      omega
    unfold ups at hd
    obtain ⟨k, hk, rfl⟩ := List.mem_map.mp hd
    rw [List.mem_range] at hk
    dsimp only [bind1, sYes]
    rw [if_pos rfl]
    simp only [sSeq, sAsg, sIf, sFor, sRet, sRetN, sNext, sPar, wB, wNot, wAnd, wOr, wIf, w2, gI, gIC, gAdd, DL.gSub, gMul, gDiv, gMod, gPow, gLt, gLe, gGt, gGe, gIxL, lstD, atI, ixN, wVar, wC, wNeg, startD, gSet, gAt, g3L, DL.wCall, aCons, aNil, g1I, g2I, gInt, gAbs, gMax2, gMin2, gLenL, wLst, wTup, mkP, mkC, gCat, lstT, iSeq, iR1, iR2, oNone, oSome, wSl, gSlL, wFn, wDct0, wMkE0]
    refine ⟨rfl, ⟨⟨ns, rfl, hn⟩, by omega, by omega⟩, ?_⟩
    rintro r c1 ⟨rfl, m, hm, rfl⟩
    refine ⟨rfl, ⟨m, by rw [List.getElem?_append_right (Nat.le_refl _)]; simp, hm⟩, ?_⟩
    rintro r c1 ⟨rfl, m2, rfl⟩
    refine ⟨sz (by simp; omega), hN _ _ ⟨by simp, g ++ [m2], ?_⟩⟩
    rw [List.set_append_right _ _ (Nat.le_refl _)]
    simp
  · rintro acc c2 ⟨rfl, g, rfl⟩
    exact gAll_true (hQ.drop0 _ _ (by unfold D.low; trivial) h)

end
/-- one class against all of them -/
def chk (cs : List Addr) (C : Addr) (bm : List Value) (i : Nat) : Bool := (List.range 25).all (fun j => (Value.ref C :: bm).contains (.ref (cs.getD j 0)) == (i == j || under i == j)) &&
  ((Value.ref C :: bm).contains (.type "ValueError") == (under i == 22)) && ((Value.ref C :: bm).contains (.type "LookupError") == (under i == 23)) && ((Value.ref C :: bm).contains (.type "ArithmeticError") == (under i == 24))
theorem chk_kit {K : PySem.W.Frag} {cs : List Addr} {C : Addr} {bm : List Value} {i : Nat} (d : chk cs C bm i = true) (b : ClsB K C bm) (bs : ∀ j, j < 25 → ∃ bm', ClsB K (cs.getD j 0) bm') :
    (∀ j, j < 25 → PySem.W.kitOne K (.ref C) (.ref (cs.getD j 0)) = some (i == j || under i == j)) ∧ PySem.W.kitOne K (.ref C) (.type "ValueError") = some (under i == 22) ∧ PySem.W.kitOne K (.ref C) (.type "LookupError") = some (under i == 23) ∧ PySem.W.kitOne K (.ref C) (.type "ArithmeticError") = some (under i == 24) := by
  unfold chk at d
  simp only [Bool.and_eq_true, beq_iff_eq] at d
  obtain ⟨⟨⟨d1, d2⟩, d3⟩, d4⟩ := d
  refine ⟨fun j hj => ?_, ?_, ?_, ?_⟩
  · obtain ⟨bm', b'⟩ := bs j hj
    rw [kit_own b b']
    have := List.all_eq_true.mp d1 j (List.mem_range.mpr hj)
    rw [beq_iff_eq] at this
    rw [this]
  · rw [kit_ty b (by decide +kernel), d2]
  · rw [kit_ty b (by decide +kernel), d3]
  · rw [kit_ty b (by decide +kernel), d4]
theorem all_mk {P : Program} {w : World} {K : PySem.W.Frag} {h : Heap} {mg : Str → Option Value} {fa C0 C1 C2 C3 C4 C5 C6 C7 C8 C9 C10 C11 C12 C13 C14 C15 C16 C17 C18 C19 C20 C21 C22 C23 C24 : Addr} {bm0 bm1 bm2 bm3 bm4 bm5 bm6 bm7 bm8 bm9 bm10 bm11 bm12 bm13 bm14 bm15 bm16 bm17 bm18 bm19 bm20 bm21 bm22 bm23 bm24 : List Value} {t_MOST_PARTS t_MOST_FIELDS t_MOST_WIDTH t_MOST_GROUP t_MOST_LENGTH t_MOST_KINDS : Tok}
    {f_pot : Addr} {oc_pot kV_pot dc_pot pm_pot cd_pot ct_pot : Value} {od_pot an_pot : Option Addr} {sl_pot : Array (Option Value)}
    {f_spoon : Addr} {oc_spoon kV_spoon dc_spoon pm_spoon cd_spoon ct_spoon : Value} {od_spoon an_spoon : Option Addr} {sl_spoon : Array (Option Value)}
    {f_of : Addr} {oc_of kV_of dc_of pm_of cd_of ct_of : Value} {od_of an_of : Option Addr} {sl_of : Array (Option Value)}
    {f_values : Addr} {oc_values kV_values dc_values pm_values cd_values ct_values : Value} {od_values an_values : Option Addr} {sl_values : Array (Option Value)}
    {f_indexes : Addr} {oc_indexes kV_indexes dc_indexes pm_indexes cd_indexes ct_indexes : Value} {od_indexes an_indexes : Option Addr} {sl_indexes : Array (Option Value)}
    {f_kept_right : Addr} {oc_kept_right kV_kept_right dc_kept_right pm_kept_right cd_kept_right ct_kept_right : Value} {od_kept_right an_kept_right : Option Addr} {sl_kept_right : Array (Option Value)}
    {f_classes : Addr} {oc_classes kV_classes dc_classes pm_classes cd_classes ct_classes : Value} {od_classes an_classes : Option Addr} {sl_classes : Array (Option Value)}
    {f_kin : Addr} {oc_kin kV_kin dc_kin pm_kin cd_kin ct_kin : Value} {od_kin an_kin : Option Addr} {sl_kin : Array (Option Value)}
    {f_right : Addr} {oc_right kV_right dc_right pm_right cd_right ct_right : Value} {od_right an_right : Option Addr} {sl_right : Array (Option Value)}
    {f_law : Addr} {oc_law kV_law dc_law pm_law cd_law ct_law : Value} {od_law an_law : Option Addr} {sl_law : Array (Option Value)}
    (X : K.In h) (G : h.Ns mainGlobals mg) (hfa : mg "law" = some (.ref fa)) (mB : ∃ t : Tok, mg "MOST_BOUND" = some (.int 1000000000000 t))
    (n0 : PySem.W.nsIn K mainGlobals "NotAFormat" = some (some (.ref C0))) (b0 : ClsB K C0 bm0)
    (n1 : PySem.W.nsIn K mainGlobals "NotALine" = some (some (.ref C1))) (b1 : ClsB K C1 bm1)
    (n2 : PySem.W.nsIn K mainGlobals "NotALedger" = some (some (.ref C2))) (b2 : ClsB K C2 bm2)
    (n3 : PySem.W.nsIn K mainGlobals "InvalidNumber" = some (some (.ref C3))) (b3 : ClsB K C3 bm3)
    (n4 : PySem.W.nsIn K mainGlobals "InvalidText" = some (some (.ref C4))) (b4 : ClsB K C4 bm4)
    (n5 : PySem.W.nsIn K mainGlobals "InvalidName" = some (some (.ref C5))) (b5 : ClsB K C5 bm5)
    (n6 : PySem.W.nsIn K mainGlobals "InvalidWish" = some (some (.ref C6))) (b6 : ClsB K C6 bm6)
    (n7 : PySem.W.nsIn K mainGlobals "InvalidSigns" = some (some (.ref C7))) (b7 : ClsB K C7 bm7)
    (n8 : PySem.W.nsIn K mainGlobals "InvalidRow" = some (some (.ref C8))) (b8 : ClsB K C8 bm8)
    (n9 : PySem.W.nsIn K mainGlobals "UnknownName" = some (some (.ref C9))) (b9 : ClsB K C9 bm9)
    (n10 : PySem.W.nsIn K mainGlobals "UnknownSetting" = some (some (.ref C10))) (b10 : ClsB K C10 bm10)
    (n11 : PySem.W.nsIn K mainGlobals "UnknownKind" = some (some (.ref C11))) (b11 : ClsB K C11 bm11)
    (n12 : PySem.W.nsIn K mainGlobals "InvalidSetting" = some (some (.ref C12))) (b12 : ClsB K C12 bm12)
    (n13 : PySem.W.nsIn K mainGlobals "InvalidRange" = some (some (.ref C13))) (b13 : ClsB K C13 bm13)
    (n14 : PySem.W.nsIn K mainGlobals "InvalidParts" = some (some (.ref C14))) (b14 : ClsB K C14 bm14)
    (n15 : PySem.W.nsIn K mainGlobals "InvalidNumbers" = some (some (.ref C15))) (b15 : ClsB K C15 bm15)
    (n16 : PySem.W.nsIn K mainGlobals "InvalidKinds" = some (some (.ref C16))) (b16 : ClsB K C16 bm16)
    (n17 : PySem.W.nsIn K mainGlobals "InvalidDeeds" = some (some (.ref C17))) (b17 : ClsB K C17 bm17)
    (n18 : PySem.W.nsIn K mainGlobals "NothingToUndo" = some (some (.ref C18))) (b18 : ClsB K C18 bm18)
    (n19 : PySem.W.nsIn K mainGlobals "Busy" = some (some (.ref C19))) (b19 : ClsB K C19 bm19)
    (n20 : PySem.W.nsIn K mainGlobals "NoSuchRow" = some (some (.ref C20))) (b20 : ClsB K C20 bm20)
    (n21 : PySem.W.nsIn K mainGlobals "TooLong" = some (some (.ref C21))) (b21 : ClsB K C21 bm21)
    (n22 : PySem.W.nsIn K mainGlobals "Unfit" = some (some (.ref C22))) (b22 : ClsB K C22 bm22)
    (n23 : PySem.W.nsIn K mainGlobals "Unready" = some (some (.ref C23))) (b23 : ClsB K C23 bm23)
    (n24 : PySem.W.nsIn K mainGlobals "Beyond" = some (some (.ref C24))) (b24 : ClsB K C24 bm24)
    (v0 : ExcV K C0 "value") (x0 : ExcI K C0) (d0 : chk [C0, C1, C2, C3, C4, C5, C6, C7, C8, C9, C10, C11, C12, C13, C14, C15, C16, C17, C18, C19, C20, C21, C22, C23, C24] C0 bm0 0 = true)
    (v1 : ExcV K C1 "value") (x1 : ExcI K C1) (d1 : chk [C0, C1, C2, C3, C4, C5, C6, C7, C8, C9, C10, C11, C12, C13, C14, C15, C16, C17, C18, C19, C20, C21, C22, C23, C24] C1 bm1 1 = true)
    (v2 : ExcV K C2 "value") (x2 : ExcI K C2) (d2 : chk [C0, C1, C2, C3, C4, C5, C6, C7, C8, C9, C10, C11, C12, C13, C14, C15, C16, C17, C18, C19, C20, C21, C22, C23, C24] C2 bm2 2 = true)
    (v3 : ExcV K C3 "value") (x3 : ExcI K C3) (d3 : chk [C0, C1, C2, C3, C4, C5, C6, C7, C8, C9, C10, C11, C12, C13, C14, C15, C16, C17, C18, C19, C20, C21, C22, C23, C24] C3 bm3 3 = true)
    (v4 : ExcV K C4 "value") (x4 : ExcI K C4) (d4 : chk [C0, C1, C2, C3, C4, C5, C6, C7, C8, C9, C10, C11, C12, C13, C14, C15, C16, C17, C18, C19, C20, C21, C22, C23, C24] C4 bm4 4 = true)
    (v5 : ExcV K C5 "value") (x5 : ExcI K C5) (d5 : chk [C0, C1, C2, C3, C4, C5, C6, C7, C8, C9, C10, C11, C12, C13, C14, C15, C16, C17, C18, C19, C20, C21, C22, C23, C24] C5 bm5 5 = true)
    (v6 : ExcV K C6 "value") (x6 : ExcI K C6) (d6 : chk [C0, C1, C2, C3, C4, C5, C6, C7, C8, C9, C10, C11, C12, C13, C14, C15, C16, C17, C18, C19, C20, C21, C22, C23, C24] C6 bm6 6 = true)
    (v7 : ExcV K C7 "value") (x7 : ExcI K C7) (d7 : chk [C0, C1, C2, C3, C4, C5, C6, C7, C8, C9, C10, C11, C12, C13, C14, C15, C16, C17, C18, C19, C20, C21, C22, C23, C24] C7 bm7 7 = true)
    (v8 : ExcV K C8 "value") (x8 : ExcI K C8) (d8 : chk [C0, C1, C2, C3, C4, C5, C6, C7, C8, C9, C10, C11, C12, C13, C14, C15, C16, C17, C18, C19, C20, C21, C22, C23, C24] C8 bm8 8 = true)
    (v9 : ExcV K C9 "value") (x9 : ExcI K C9) (d9 : chk [C0, C1, C2, C3, C4, C5, C6, C7, C8, C9, C10, C11, C12, C13, C14, C15, C16, C17, C18, C19, C20, C21, C22, C23, C24] C9 bm9 9 = true)
    (v10 : ExcV K C10 "value") (x10 : ExcI K C10) (d10 : chk [C0, C1, C2, C3, C4, C5, C6, C7, C8, C9, C10, C11, C12, C13, C14, C15, C16, C17, C18, C19, C20, C21, C22, C23, C24] C10 bm10 10 = true)
    (v11 : ExcV K C11 "value") (x11 : ExcI K C11) (d11 : chk [C0, C1, C2, C3, C4, C5, C6, C7, C8, C9, C10, C11, C12, C13, C14, C15, C16, C17, C18, C19, C20, C21, C22, C23, C24] C11 bm11 11 = true)
    (v12 : ExcV K C12 "setting") (x12 : ExcI K C12) (d12 : chk [C0, C1, C2, C3, C4, C5, C6, C7, C8, C9, C10, C11, C12, C13, C14, C15, C16, C17, C18, C19, C20, C21, C22, C23, C24] C12 bm12 12 = true)
    (v13 : ExcV K C13 "end") (x13 : ExcI K C13) (d13 : chk [C0, C1, C2, C3, C4, C5, C6, C7, C8, C9, C10, C11, C12, C13, C14, C15, C16, C17, C18, C19, C20, C21, C22, C23, C24] C13 bm13 13 = true)
    (v14 : ExcV K C14 "index") (x14 : ExcI K C14) (d14 : chk [C0, C1, C2, C3, C4, C5, C6, C7, C8, C9, C10, C11, C12, C13, C14, C15, C16, C17, C18, C19, C20, C21, C22, C23, C24] C14 bm14 14 = true)
    (v15 : ExcV K C15 "index") (x15 : ExcI K C15) (d15 : chk [C0, C1, C2, C3, C4, C5, C6, C7, C8, C9, C10, C11, C12, C13, C14, C15, C16, C17, C18, C19, C20, C21, C22, C23, C24] C15 bm15 15 = true)
    (v16 : ExcV K C16 "index") (x16 : ExcI K C16) (d16 : chk [C0, C1, C2, C3, C4, C5, C6, C7, C8, C9, C10, C11, C12, C13, C14, C15, C16, C17, C18, C19, C20, C21, C22, C23, C24] C16 bm16 16 = true)
    (v17 : ExcV K C17 "index") (x17 : ExcI K C17) (d17 : chk [C0, C1, C2, C3, C4, C5, C6, C7, C8, C9, C10, C11, C12, C13, C14, C15, C16, C17, C18, C19, C20, C21, C22, C23, C24] C17 bm17 17 = true)
    (v18 : ExcV0 K C18) (x18 : ExcI K C18) (d18 : chk [C0, C1, C2, C3, C4, C5, C6, C7, C8, C9, C10, C11, C12, C13, C14, C15, C16, C17, C18, C19, C20, C21, C22, C23, C24] C18 bm18 18 = true)
    (v19 : ExcV0 K C19) (x19 : ExcI K C19) (d19 : chk [C0, C1, C2, C3, C4, C5, C6, C7, C8, C9, C10, C11, C12, C13, C14, C15, C16, C17, C18, C19, C20, C21, C22, C23, C24] C19 bm19 19 = true)
    (v20 : ExcV K C20 "place") (x20 : ExcI K C20) (d20 : chk [C0, C1, C2, C3, C4, C5, C6, C7, C8, C9, C10, C11, C12, C13, C14, C15, C16, C17, C18, C19, C20, C21, C22, C23, C24] C20 bm20 20 = true)
    (v21 : ExcV K C21 "limit") (x21 : ExcI K C21) (d21 : chk [C0, C1, C2, C3, C4, C5, C6, C7, C8, C9, C10, C11, C12, C13, C14, C15, C16, C17, C18, C19, C20, C21, C22, C23, C24] C21 bm21 21 = true)
    (m_MOST_PARTS : PySem.W.nsIn K mainGlobals "MOST_PARTS" = some (some (.int 8 t_MOST_PARTS)))
    (m_MOST_FIELDS : PySem.W.nsIn K mainGlobals "MOST_FIELDS" = some (some (.int 4 t_MOST_FIELDS)))
    (m_MOST_WIDTH : PySem.W.nsIn K mainGlobals "MOST_WIDTH" = some (some (.int 12 t_MOST_WIDTH)))
    (m_MOST_GROUP : PySem.W.nsIn K mainGlobals "MOST_GROUP" = some (some (.int 4 t_MOST_GROUP)))
    (m_MOST_LENGTH : PySem.W.nsIn K mainGlobals "MOST_LENGTH" = some (some (.int 400 t_MOST_LENGTH)))
    (m_MOST_KINDS : PySem.W.nsIn K mainGlobals "MOST_KINDS" = some (some (.int 6 t_MOST_KINDS)))
    (z_len : PySem.W.nsIn K mainGlobals "len" = some none)
    (z_abs : PySem.W.nsIn K mainGlobals "abs" = some none)
    (z_int : PySem.W.nsIn K mainGlobals "int" = some none)
    (z_min : PySem.W.nsIn K mainGlobals "min" = some none)
    (z_max : PySem.W.nsIn K mainGlobals "max" = some none)
    (z_range : PySem.W.nsIn K mainGlobals "range" = some none)
    (z_all : PySem.W.nsIn K mainGlobals "all" = some none)
    (z_isinstance : PySem.W.nsIn K mainGlobals "isinstance" = some none)
    (z_repr : PySem.W.nsIn K mainGlobals "repr" = some none)
    (z_ValueError : PySem.W.nsIn K mainGlobals "ValueError" = some none)
    (z_LookupError : PySem.W.nsIn K mainGlobals "LookupError" = some none)
    (z_ArithmeticError : PySem.W.nsIn K mainGlobals "ArithmeticError" = some none)
    (aF_pot : PySem.W.nsIn K mainGlobals "_law_pot" = some (some (.ref f_pot))) (lF_pot : K.lookup f_pot = some ⟨oc_pot, od_pot, .func (PySem.W.fnOf "_law_pot" "_law_pot" (defArgs s_pot) (defBody s_pot) (defScope s_pot) .none kV_pot dc_pot pm_pot an_pot cd_pot ct_pot), sl_pot⟩) (cF_pot : PySem.W.codeIn K cd_pot "_law_pot" = true) (kF_pot : PySem.W.keepIn K (.ref f_pot) = true)
    (aF_spoon : PySem.W.nsIn K mainGlobals "_law_spoon" = some (some (.ref f_spoon))) (lF_spoon : K.lookup f_spoon = some ⟨oc_spoon, od_spoon, .func (PySem.W.fnOf "_law_spoon" "_law_spoon" (defArgs s_spoon) (defBody s_spoon) (defScope s_spoon) .none kV_spoon dc_spoon pm_spoon an_spoon cd_spoon ct_spoon), sl_spoon⟩) (cF_spoon : PySem.W.codeIn K cd_spoon "_law_spoon" = true) (kF_spoon : PySem.W.keepIn K (.ref f_spoon) = true)
    (aF_of : PySem.W.nsIn K mainGlobals "_law_of" = some (some (.ref f_of))) (lF_of : K.lookup f_of = some ⟨oc_of, od_of, .func (PySem.W.fnOf "_law_of" "_law_of" (defArgs s_of) (defBody s_of) (defScope s_of) .none kV_of dc_of pm_of an_of cd_of ct_of), sl_of⟩) (cF_of : PySem.W.codeIn K cd_of "_law_of" = true) (kF_of : PySem.W.keepIn K (.ref f_of) = true)
    (aF_values : PySem.W.nsIn K mainGlobals "_law_values" = some (some (.ref f_values))) (lF_values : K.lookup f_values = some ⟨oc_values, od_values, .func (PySem.W.fnOf "_law_values" "_law_values" (defArgs s_values) (defBody s_values) (defScope s_values) .none kV_values dc_values pm_values an_values cd_values ct_values), sl_values⟩) (cF_values : PySem.W.codeIn K cd_values "_law_values" = true) (kF_values : PySem.W.keepIn K (.ref f_values) = true)
    (aF_indexes : PySem.W.nsIn K mainGlobals "_law_indexes" = some (some (.ref f_indexes))) (lF_indexes : K.lookup f_indexes = some ⟨oc_indexes, od_indexes, .func (PySem.W.fnOf "_law_indexes" "_law_indexes" (defArgs s_indexes) (defBody s_indexes) (defScope s_indexes) .none kV_indexes dc_indexes pm_indexes an_indexes cd_indexes ct_indexes), sl_indexes⟩) (cF_indexes : PySem.W.codeIn K cd_indexes "_law_indexes" = true) (kF_indexes : PySem.W.keepIn K (.ref f_indexes) = true)
    (aF_kept_right : PySem.W.nsIn K mainGlobals "_law_kept_right" = some (some (.ref f_kept_right))) (lF_kept_right : K.lookup f_kept_right = some ⟨oc_kept_right, od_kept_right, .func (PySem.W.fnOf "_law_kept_right" "_law_kept_right" (defArgs s_kept_right) (defBody s_kept_right) (defScope s_kept_right) .none kV_kept_right dc_kept_right pm_kept_right an_kept_right cd_kept_right ct_kept_right), sl_kept_right⟩) (cF_kept_right : PySem.W.codeIn K cd_kept_right "_law_kept_right" = true) (kF_kept_right : PySem.W.keepIn K (.ref f_kept_right) = true)
    (aF_classes : PySem.W.nsIn K mainGlobals "_law_classes" = some (some (.ref f_classes))) (lF_classes : K.lookup f_classes = some ⟨oc_classes, od_classes, .func (PySem.W.fnOf "_law_classes" "_law_classes" (defArgs s_classes) (defBody s_classes) (defScope s_classes) .none kV_classes dc_classes pm_classes an_classes cd_classes ct_classes), sl_classes⟩) (cF_classes : PySem.W.codeIn K cd_classes "_law_classes" = true) (kF_classes : PySem.W.keepIn K (.ref f_classes) = true)
    (aF_kin : PySem.W.nsIn K mainGlobals "_law_kin" = some (some (.ref f_kin))) (lF_kin : K.lookup f_kin = some ⟨oc_kin, od_kin, .func (PySem.W.fnOf "_law_kin" "_law_kin" (defArgs s_kin) (defBody s_kin) (defScope s_kin) .none kV_kin dc_kin pm_kin an_kin cd_kin ct_kin), sl_kin⟩) (cF_kin : PySem.W.codeIn K cd_kin "_law_kin" = true) (kF_kin : PySem.W.keepIn K (.ref f_kin) = true)
    (aF_right : PySem.W.nsIn K mainGlobals "_law_right" = some (some (.ref f_right))) (lF_right : K.lookup f_right = some ⟨oc_right, od_right, .func (PySem.W.fnOf "_law_right" "_law_right" (defArgs s_right) (defBody s_right) (defScope s_right) .none kV_right dc_right pm_right an_right cd_right ct_right), sl_right⟩) (cF_right : PySem.W.codeIn K cd_right "_law_right" = true) (kF_right : PySem.W.keepIn K (.ref f_right) = true)
    (aF_law : PySem.W.nsIn K mainGlobals "law" = some (some (.ref f_law))) (lF_law : K.lookup f_law = some ⟨oc_law, od_law, .func (PySem.W.fnOf "law" "law" (defArgs s_law) (defBody s_law) (defScope s_law) .none kV_law dc_law pm_law an_law cd_law ct_law), sl_law⟩) (cF_law : PySem.W.codeIn K cd_law "law" = true) (kF_law : PySem.W.keepIn K (.ref f_law) = true)
    : ∃ fd : FuncData, (∀ (s : Shared) (v : Value), BindsTo s fd ⟨[v], []⟩ [("_law_script", v)]) ∧ ∀ base : Heap, K.In base → base.Ns mainGlobals mg → FnG P w K mg base 5 fa fd ["_law_script"] (wf_law fun _ => 0) := by
  have bs : ∀ j, j < 25 → ∃ bm', ClsB K ([C0, C1, C2, C3, C4, C5, C6, C7, C8, C9, C10, C11, C12, C13, C14, C15, C16, C17, C18, C19, C20, C21, C22, C23, C24].getD j 0) bm'
    | 0, _ => ⟨_, b0⟩
    | 1, _ => ⟨_, b1⟩
    | 2, _ => ⟨_, b2⟩
    | 3, _ => ⟨_, b3⟩
    | 4, _ => ⟨_, b4⟩
    | 5, _ => ⟨_, b5⟩
    | 6, _ => ⟨_, b6⟩
    | 7, _ => ⟨_, b7⟩
    | 8, _ => ⟨_, b8⟩
    | 9, _ => ⟨_, b9⟩
    | 10, _ => ⟨_, b10⟩
    | 11, _ => ⟨_, b11⟩
    | 12, _ => ⟨_, b12⟩
    | 13, _ => ⟨_, b13⟩
    | 14, _ => ⟨_, b14⟩
    | 15, _ => ⟨_, b15⟩
    | 16, _ => ⟨_, b16⟩
    | 17, _ => ⟨_, b17⟩
    | 18, _ => ⟨_, b18⟩
    | 19, _ => ⟨_, b19⟩
    | 20, _ => ⟨_, b20⟩
    | 21, _ => ⟨_, b21⟩
    | 22, _ => ⟨_, b22⟩
    | 23, _ => ⟨_, b23⟩
    | 24, _ => ⟨_, b24⟩
    | n + 25, h => absurd h (by omega)
  have q0 := chk_kit d0 b0 bs
  have q1 := chk_kit d1 b1 bs
  have q2 := chk_kit d2 b2 bs
  have q3 := chk_kit d3 b3 bs
  have q4 := chk_kit d4 b4 bs
  have q5 := chk_kit d5 b5 bs
  have q6 := chk_kit d6 b6 bs
  have q7 := chk_kit d7 b7 bs
  have q8 := chk_kit d8 b8 bs
  have q9 := chk_kit d9 b9 bs
  have q10 := chk_kit d10 b10 bs
  have q11 := chk_kit d11 b11 bs
  have q12 := chk_kit d12 b12 bs
  have q13 := chk_kit d13 b13 bs
  have q14 := chk_kit d14 b14 bs
  have q15 := chk_kit d15 b15 bs
  have q16 := chk_kit d16 b16 bs
  have q17 := chk_kit d17 b17 bs
  have q18 := chk_kit d18 b18 bs
  have q19 := chk_kit d19 b19 bs
  have q20 := chk_kit d20 b20 bs
  have q21 := chk_kit d21 b21 bs
  have T : Txt K mg fun i => [C0, C1, C2, C3, C4, C5, C6, C7, C8, C9, C10, C11, C12, C13, C14, C15, C16, C17, C18, C19, C20, C21, C22, C23, C24].getD i 0 :=
    { g0 := PySem.W.mg_of X G n0,
      e0 := v0,
      g1 := PySem.W.mg_of X G n1,
      e1 := v1,
      g2 := PySem.W.mg_of X G n2,
      e2 := v2,
      g3 := PySem.W.mg_of X G n3,
      e3 := v3,
      g4 := PySem.W.mg_of X G n4,
      e4 := v4,
      g5 := PySem.W.mg_of X G n5,
      e5 := v5,
      g6 := PySem.W.mg_of X G n6,
      e6 := v6,
      g7 := PySem.W.mg_of X G n7,
      e7 := v7,
      g8 := PySem.W.mg_of X G n8,
      e8 := v8,
      g9 := PySem.W.mg_of X G n9,
      e9 := v9,
      g10 := PySem.W.mg_of X G n10,
      e10 := v10,
      g11 := PySem.W.mg_of X G n11,
      e11 := v11,
      g12 := PySem.W.mg_of X G n12,
      e12 := v12,
      g13 := PySem.W.mg_of X G n13,
      e13 := v13,
      g14 := PySem.W.mg_of X G n14,
      e14 := v14,
      g15 := PySem.W.mg_of X G n15,
      e15 := v15,
      g16 := PySem.W.mg_of X G n16,
      e16 := v16,
      g17 := PySem.W.mg_of X G n17,
      e17 := v17,
      g18 := PySem.W.mg_of X G n18,
      e18 := v18,
      g19 := PySem.W.mg_of X G n19,
      e19 := v19,
      g20 := PySem.W.mg_of X G n20,
      e20 := v20,
      g21 := PySem.W.mg_of X G n21,
      e21 := v21,
      g22 := PySem.W.mg_of X G n22,
      g23 := PySem.W.mg_of X G n23,
      g24 := PySem.W.mg_of X G n24,
      m_MOST_PARTS := ⟨_, PySem.W.mg_of X G m_MOST_PARTS⟩,
      m_MOST_FIELDS := ⟨_, PySem.W.mg_of X G m_MOST_FIELDS⟩,
      m_MOST_WIDTH := ⟨_, PySem.W.mg_of X G m_MOST_WIDTH⟩,
      m_MOST_GROUP := ⟨_, PySem.W.mg_of X G m_MOST_GROUP⟩,
      m_MOST_BOUND := mB,
      m_MOST_LENGTH := ⟨_, PySem.W.mg_of X G m_MOST_LENGTH⟩,
      m_MOST_KINDS := ⟨_, PySem.W.mg_of X G m_MOST_KINDS⟩,
      n_len := PySem.W.mg_none_of X G z_len,
      n_abs := PySem.W.mg_none_of X G z_abs,
      n_int := PySem.W.mg_none_of X G z_int,
      n_min := PySem.W.mg_none_of X G z_min,
      n_max := PySem.W.mg_none_of X G z_max,
      n_range := PySem.W.mg_none_of X G z_range,
      n_all := PySem.W.mg_none_of X G z_all,
      n_isinstance := PySem.W.mg_none_of X G z_isinstance,
      n_repr := PySem.W.mg_none_of X G z_repr,
      n_ValueError := PySem.W.mg_none_of X G z_ValueError,
      n_LookupError := PySem.W.mg_none_of X G z_LookupError,
      n_ArithmeticError := PySem.W.mg_none_of X G z_ArithmeticError,
      xI := fun i hi => match i, hi with
        | 0, _ => x0
        | 1, _ => x1
        | 2, _ => x2
        | 3, _ => x3
        | 4, _ => x4
        | 5, _ => x5
        | 6, _ => x6
        | 7, _ => x7
        | 8, _ => x8
        | 9, _ => x9
        | 10, _ => x10
        | 11, _ => x11
        | 12, _ => x12
        | 13, _ => x13
        | 14, _ => x14
        | 15, _ => x15
        | 16, _ => x16
        | 17, _ => x17
        | 18, _ => x18
        | 19, _ => x19
        | 20, _ => x20
        | 21, _ => x21
        | n + 22, h => absurd h (by omega),
      kit := fun i hi => match i, hi with
        | 0, _ => q0.1
        | 1, _ => q1.1
        | 2, _ => q2.1
        | 3, _ => q3.1
        | 4, _ => q4.1
        | 5, _ => q5.1
        | 6, _ => q6.1
        | 7, _ => q7.1
        | 8, _ => q8.1
        | 9, _ => q9.1
        | 10, _ => q10.1
        | 11, _ => q11.1
        | 12, _ => q12.1
        | 13, _ => q13.1
        | 14, _ => q14.1
        | 15, _ => q15.1
        | 16, _ => q16.1
        | 17, _ => q17.1
        | 18, _ => q18.1
        | 19, _ => q19.1
        | 20, _ => q20.1
        | 21, _ => q21.1
        | n + 22, h => absurd h (by omega),
      kit22 := fun i hi => match i, hi with
        | 0, _ => q0.2.1
        | 1, _ => q1.2.1
        | 2, _ => q2.2.1
        | 3, _ => q3.2.1
        | 4, _ => q4.2.1
        | 5, _ => q5.2.1
        | 6, _ => q6.2.1
        | 7, _ => q7.2.1
        | 8, _ => q8.2.1
        | 9, _ => q9.2.1
        | 10, _ => q10.2.1
        | 11, _ => q11.2.1
        | 12, _ => q12.2.1
        | 13, _ => q13.2.1
        | 14, _ => q14.2.1
        | 15, _ => q15.2.1
        | 16, _ => q16.2.1
        | 17, _ => q17.2.1
        | 18, _ => q18.2.1
        | 19, _ => q19.2.1
        | 20, _ => q20.2.1
        | 21, _ => q21.2.1
        | n + 22, h => absurd h (by omega),
      kit23 := fun i hi => match i, hi with
        | 0, _ => q0.2.2.1
        | 1, _ => q1.2.2.1
        | 2, _ => q2.2.2.1
        | 3, _ => q3.2.2.1
        | 4, _ => q4.2.2.1
        | 5, _ => q5.2.2.1
        | 6, _ => q6.2.2.1
        | 7, _ => q7.2.2.1
        | 8, _ => q8.2.2.1
        | 9, _ => q9.2.2.1
        | 10, _ => q10.2.2.1
        | 11, _ => q11.2.2.1
        | 12, _ => q12.2.2.1
        | 13, _ => q13.2.2.1
        | 14, _ => q14.2.2.1
        | 15, _ => q15.2.2.1
        | 16, _ => q16.2.2.1
        | 17, _ => q17.2.2.1
        | 18, _ => q18.2.2.1
        | 19, _ => q19.2.2.1
        | 20, _ => q20.2.2.1
        | 21, _ => q21.2.2.1
        | n + 22, h => absurd h (by omega),
      kit24 := fun i hi => match i, hi with
        | 0, _ => q0.2.2.2
        | 1, _ => q1.2.2.2
        | 2, _ => q2.2.2.2
        | 3, _ => q3.2.2.2
        | 4, _ => q4.2.2.2
        | 5, _ => q5.2.2.2
        | 6, _ => q6.2.2.2
        | 7, _ => q7.2.2.2
        | 8, _ => q8.2.2.2
        | 9, _ => q9.2.2.2
        | 10, _ => q10.2.2.2
        | 11, _ => q11.2.2.2
        | 12, _ => q12.2.2.2
        | 13, _ => q13.2.2.2
        | 14, _ => q14.2.2.2
        | 15, _ => q15.2.2.2
        | 16, _ => q16.2.2.2
        | 17, _ => q17.2.2.2
        | 18, _ => q18.2.2.2
        | 19, _ => q19.2.2.2
        | 20, _ => q20.2.2.2
        | 21, _ => q21.2.2.2
        | n + 22, h => absurd h (by omega) }
  have F_pot := fun_mk (st := s_pot) lF_pot cF_pot kF_pot
  have B_pot := F_pot.binds (ps := P_pot) fun _ _ _ _ _ _ us hl => match us, hl with | [_, _], _ => rfl
  have F_spoon := fun_mk (st := s_spoon) lF_spoon cF_spoon kF_spoon
  have B_spoon := F_spoon.binds (ps := P_spoon) fun _ _ _ _ _ _ us hl => match us, hl with | [_, _], _ => rfl
  have F_of := fun_mk (st := s_of) lF_of cF_of kF_of
  have B_of := F_of.binds (ps := P_of) fun _ _ _ _ _ _ us hl => match us, hl with | [_, _], _ => rfl
  have F_values := fun_mk (st := s_values) lF_values cF_values kF_values
  have B_values := F_values.binds (ps := P_values) fun _ _ _ _ _ _ us hl => match us, hl with | [_], _ => rfl
  have F_indexes := fun_mk (st := s_indexes) lF_indexes cF_indexes kF_indexes
  have B_indexes := F_indexes.binds (ps := P_indexes) fun _ _ _ _ _ _ us hl => match us, hl with | [_], _ => rfl
  have F_kept_right := fun_mk (st := s_kept_right) lF_kept_right cF_kept_right kF_kept_right
  have B_kept_right := F_kept_right.binds (ps := P_kept_right) fun _ _ _ _ _ _ us hl => match us, hl with | [_], _ => rfl
  have F_classes := fun_mk (st := s_classes) lF_classes cF_classes kF_classes
  have B_classes := F_classes.binds (ps := P_classes) fun _ _ _ _ _ _ us hl => match us, hl with | [_], _ => rfl
  have F_kin := fun_mk (st := s_kin) lF_kin cF_kin kF_kin
  have B_kin := F_kin.binds (ps := P_kin) fun _ _ _ _ _ _ us hl => match us, hl with | [_], _ => rfl
  have F_right := fun_mk (st := s_right) lF_right cF_right kF_right
  have B_right := F_right.binds (ps := P_right) fun _ _ _ _ _ _ us hl => match us, hl with | [_], _ => rfl
  have F_law := fun_mk (st := s_law) lF_law cF_law kF_law
  have B_law := F_law.binds (ps := P_law) fun _ _ _ _ _ _ us hl => match us, hl with | [_], _ => rfl
  have e := hfa.symm.trans (PySem.W.mg_of X G aF_law)
  cases e
  refine ⟨PySem.W.fnOf "law" "law" (defArgs s_law) (defBody s_law) (defScope s_law) .none kV_law dc_law pm_law an_law cd_law ct_law, fun s v => .of_eq rfl, fun base _ _ => ?_⟩
  have c_law_pot : Cal P w K mg base 1 "_law_pot" P_pot (wf_pot _) := ⟨_, _, ok_pot T  F_pot, B_pot, PySem.W.mg_of X G aF_pot, kF_pot⟩
  have c_law_spoon : Cal P w K mg base 1 "_law_spoon" P_spoon (wf_spoon _) := ⟨_, _, ok_spoon T  F_spoon, B_spoon, PySem.W.mg_of X G aF_spoon, kF_spoon⟩
  have c_law_of : Cal P w K mg base 2 "_law_of" P_of (wf_of _) := ⟨_, _, ok_of T c_law_spoon F_of, B_of, PySem.W.mg_of X G aF_of, kF_of⟩
  have c_law_values : Cal P w K mg base 2 "_law_values" P_values (wf_values _) := ⟨_, _, ok_values T  F_values, B_values, PySem.W.mg_of X G aF_values, kF_values⟩
  have c_law_indexes : Cal P w K mg base 2 "_law_indexes" P_indexes (wf_indexes _) := ⟨_, _, ok_indexes T  F_indexes, B_indexes, PySem.W.mg_of X G aF_indexes, kF_indexes⟩
  have c_law_kept_right : Cal P w K mg base 3 "_law_kept_right" P_kept_right (wf_kept_right _) := ⟨_, _, ok_kept_right T c_law_values c_law_indexes F_kept_right, B_kept_right, PySem.W.mg_of X G aF_kept_right, kF_kept_right⟩
  have c_law_classes : Cal P w K mg base 1 "_law_classes" P_classes (wf_classes _) := ⟨_, _, ok_classes T  F_classes, B_classes, PySem.W.mg_of X G aF_classes, kF_classes⟩
  have c_law_kin : Cal P w K mg base 1 "_law_kin" P_kin (wf_kin _) := ⟨_, _, ok_kin T  F_kin, B_kin, PySem.W.mg_of X G aF_kin, kF_kin⟩
  have c_law_right : Cal P w K mg base 4 "_law_right" P_right (wf_right _) := ⟨_, _, ok_right T c_law_of c_law_values c_law_indexes c_law_kept_right c_law_kin c_law_classes F_right, B_right, PySem.W.mg_of X G aF_right, kF_right⟩
  have z := ok_law T c_law_right c_law_pot F_law
  exact z
end K12
set_option Elab.async false
set_option linter.all false
open PySem PySem.W PyProof.Rows in
set_option maxRecDepth 100000 in
set_option maxHeartbeats 0 in
theorem PySem.Challenge.cw_figurelines_k12_errors_and_limits_holds : PySem.Challenge.rw_figurelines_k12_errors_and_limits.Holds := by
  w_on; o_law; k_head; (case hw => w_witness2)
  k_fill
  refine DL.walkG (l := PySem.Challenge.rw_figurelines_k12_errors_and_limits) (n := 63) (k := 5) (x := "_law_script") (wf := fun _ => K12.wf_law fun _ => 0) rfl (by decide) rfl ⟨rfl, by decide, by decide⟩ (fun w h Y => PySem.W.kIn_of Y) ?F ?hw
  case hw => exact fun w ns hn Q X hQ => ⟨⟨ns, rfl, hn⟩, fun d c' e => by obtain ⟨rfl, rfl⟩ := e; exact hQ⟩
  case F =>
    intro w mg fa h hX KX G hmg
    refine' K12.all_mk KX G hmg (DL.loose_int hX (List.Mem.head _)) ?n0 ?b0 ?n1 ?b1 ?n2 ?b2 ?n3 ?b3 ?n4 ?b4 ?n5 ?b5 ?n6 ?b6 ?n7 ?b7 ?n8 ?b8 ?n9 ?b9 ?n10 ?b10 ?n11 ?b11 ?n12 ?b12 ?n13 ?b13 ?n14 ?b14 ?n15 ?b15 ?n16 ?b16 ?n17 ?b17 ?n18 ?b18 ?n19 ?b19 ?n20 ?b20 ?n21 ?b21 ?n22 ?b22 ?n23 ?b23 ?n24 ?b24 ?v0 ?x0 ?d0 ?v1 ?x1 ?d1 ?v2 ?x2 ?d2 ?v3 ?x3 ?d3 ?v4 ?x4 ?d4 ?v5 ?x5 ?d5 ?v6 ?x6 ?d6 ?v7 ?x7 ?d7 ?v8 ?x8 ?d8 ?v9 ?x9 ?d9 ?v10 ?x10 ?d10 ?v11 ?x11 ?d11 ?v12 ?x12 ?d12 ?v13 ?x13 ?d13 ?v14 ?x14 ?d14 ?v15 ?x15 ?d15 ?v16 ?x16 ?d16 ?v17 ?x17 ?d17 ?v18 ?x18 ?d18 ?v19 ?x19 ?d19 ?v20 ?x20 ?d20 ?v21 ?x21 ?d21 ?m_MOST_PARTS ?m_MOST_FIELDS ?m_MOST_WIDTH ?m_MOST_GROUP ?m_MOST_LENGTH ?m_MOST_KINDS ?z_len ?z_abs ?z_int ?z_min ?z_max ?z_range ?z_all ?z_isinstance ?z_repr ?z_ValueError ?z_LookupError ?z_ArithmeticError ?aF_pot ?lF_pot ?cF_pot ?kF_pot ?aF_spoon ?lF_spoon ?cF_spoon ?kF_spoon ?aF_of ?lF_of ?cF_of ?kF_of ?aF_values ?lF_values ?cF_values ?kF_values ?aF_indexes ?lF_indexes ?cF_indexes ?kF_indexes ?aF_kept_right ?lF_kept_right ?cF_kept_right ?kF_kept_right ?aF_classes ?lF_classes ?cF_classes ?kF_classes ?aF_kin ?lF_kin ?cF_kin ?kF_kin ?aF_right ?lF_right ?cF_right ?kF_right ?aF_law ?lF_law ?cF_law ?kF_law
    (case n0 => k_is)
    (case b0 => (refine' DL.clsB_mk ?lb0); (case lb0 => k_is))
    (case n1 => k_is)
    (case b1 => (refine' DL.clsB_mk ?lb1); (case lb1 => k_is))
    (case n2 => k_is)
    (case b2 => (refine' DL.clsB_mk ?lb2); (case lb2 => k_is))
    (case n3 => k_is)
    (case b3 => (refine' DL.clsB_mk ?lb3); (case lb3 => k_is))
    (case n4 => k_is)
    (case b4 => (refine' DL.clsB_mk ?lb4); (case lb4 => k_is))
    (case n5 => k_is)
    (case b5 => (refine' DL.clsB_mk ?lb5); (case lb5 => k_is))
    (case n6 => k_is)
    (case b6 => (refine' DL.clsB_mk ?lb6); (case lb6 => k_is))
    (case n7 => k_is)
    (case b7 => (refine' DL.clsB_mk ?lb7); (case lb7 => k_is))
    (case n8 => k_is)
    (case b8 => (refine' DL.clsB_mk ?lb8); (case lb8 => k_is))
    (case n9 => k_is)
    (case b9 => (refine' DL.clsB_mk ?lb9); (case lb9 => k_is))
    (case n10 => k_is)
    (case b10 => (refine' DL.clsB_mk ?lb10); (case lb10 => k_is))
    (case n11 => k_is)
    (case b11 => (refine' DL.clsB_mk ?lb11); (case lb11 => k_is))
    (case n12 => k_is)
    (case b12 => (refine' DL.clsB_mk ?lb12); (case lb12 => k_is))
    (case n13 => k_is)
    (case b13 => (refine' DL.clsB_mk ?lb13); (case lb13 => k_is))
    (case n14 => k_is)
    (case b14 => (refine' DL.clsB_mk ?lb14); (case lb14 => k_is))
    (case n15 => k_is)
    (case b15 => (refine' DL.clsB_mk ?lb15); (case lb15 => k_is))
    (case n16 => k_is)
    (case b16 => (refine' DL.clsB_mk ?lb16); (case lb16 => k_is))
    (case n17 => k_is)
    (case b17 => (refine' DL.clsB_mk ?lb17); (case lb17 => k_is))
    (case n18 => k_is)
    (case b18 => (refine' DL.clsB_mk ?lb18); (case lb18 => k_is))
    (case n19 => k_is)
    (case b19 => (refine' DL.clsB_mk ?lb19); (case lb19 => k_is))
    (case n20 => k_is)
    (case b20 => (refine' DL.clsB_mk ?lb20); (case lb20 => k_is))
    (case n21 => k_is)
    (case b21 => (refine' DL.clsB_mk ?lb21); (case lb21 => k_is))
    (case n22 => k_is)
    (case b22 => (refine' DL.clsB_mk ?lb22); (case lb22 => k_is))
    (case n23 => k_is)
    (case b23 => (refine' DL.clsB_mk ?lb23); (case lb23 => k_is))
    (case n24 => k_is)
    (case b24 => (refine' DL.clsB_mk ?lb24); (case lb24 => k_is))
    (case v0 => (refine' DL.excV_mk PySem.F.excBase_ValueError PySem.F.store_ValueError rfl ?l0 ?t0 ?hb0 ?sa0 ?ga0 ?gg0 ?nf0 ?iC0 ?tI0 ?kC0 ?lI0 ?cI0); (case l0 => k_is); (case t0 => rfl); (case hb0 => rfl); (case sa0 => k_is); (case ga0 => k_is); (case gg0 => k_is); (case nf0 => k_is); (case iC0 => k_is); (case tI0 => k_is); (case kC0 => k_is); (case lI0 => k_is); (case cI0 => k_is))
    (case x0 => (refine' DL.excI_mk (DL.clsB_mk ?xl0) ?xga0 ?xgg0 ?xha0 ?xhn0 ?xht0 ?xhb0 ?xho0); (case xl0 => k_is); (case xga0 => k_is); (case xgg0 => k_is); (case xha0 => k_is); (case xhn0 => k_is); (case xht0 => k_is); (case xhb0 => rfl); (case xho0 => rfl))
    (case d0 => decide +kernel)
    (case v1 => (refine' DL.excV_mk PySem.F.excBase_ValueError PySem.F.store_ValueError rfl ?l1 ?t1 ?hb1 ?sa1 ?ga1 ?gg1 ?nf1 ?iC1 ?tI1 ?kC1 ?lI1 ?cI1); (case l1 => k_is); (case t1 => rfl); (case hb1 => rfl); (case sa1 => k_is); (case ga1 => k_is); (case gg1 => k_is); (case nf1 => k_is); (case iC1 => k_is); (case tI1 => k_is); (case kC1 => k_is); (case lI1 => k_is); (case cI1 => k_is))
    (case x1 => (refine' DL.excI_mk (DL.clsB_mk ?xl1) ?xga1 ?xgg1 ?xha1 ?xhn1 ?xht1 ?xhb1 ?xho1); (case xl1 => k_is); (case xga1 => k_is); (case xgg1 => k_is); (case xha1 => k_is); (case xhn1 => k_is); (case xht1 => k_is); (case xhb1 => rfl); (case xho1 => rfl))
    (case d1 => decide +kernel)
    (case v2 => (refine' DL.excV_mk PySem.F.excBase_ValueError PySem.F.store_ValueError rfl ?l2 ?t2 ?hb2 ?sa2 ?ga2 ?gg2 ?nf2 ?iC2 ?tI2 ?kC2 ?lI2 ?cI2); (case l2 => k_is); (case t2 => rfl); (case hb2 => rfl); (case sa2 => k_is); (case ga2 => k_is); (case gg2 => k_is); (case nf2 => k_is); (case iC2 => k_is); (case tI2 => k_is); (case kC2 => k_is); (case lI2 => k_is); (case cI2 => k_is))
    (case x2 => (refine' DL.excI_mk (DL.clsB_mk ?xl2) ?xga2 ?xgg2 ?xha2 ?xhn2 ?xht2 ?xhb2 ?xho2); (case xl2 => k_is); (case xga2 => k_is); (case xgg2 => k_is); (case xha2 => k_is); (case xhn2 => k_is); (case xht2 => k_is); (case xhb2 => rfl); (case xho2 => rfl))
    (case d2 => decide +kernel)
    (case v3 => (refine' DL.excV_mk PySem.F.excBase_ValueError PySem.F.store_ValueError rfl ?l3 ?t3 ?hb3 ?sa3 ?ga3 ?gg3 ?nf3 ?iC3 ?tI3 ?kC3 ?lI3 ?cI3); (case l3 => k_is); (case t3 => rfl); (case hb3 => rfl); (case sa3 => k_is); (case ga3 => k_is); (case gg3 => k_is); (case nf3 => k_is); (case iC3 => k_is); (case tI3 => k_is); (case kC3 => k_is); (case lI3 => k_is); (case cI3 => k_is))
    (case x3 => (refine' DL.excI_mk (DL.clsB_mk ?xl3) ?xga3 ?xgg3 ?xha3 ?xhn3 ?xht3 ?xhb3 ?xho3); (case xl3 => k_is); (case xga3 => k_is); (case xgg3 => k_is); (case xha3 => k_is); (case xhn3 => k_is); (case xht3 => k_is); (case xhb3 => rfl); (case xho3 => rfl))
    (case d3 => decide +kernel)
    (case v4 => (refine' DL.excV_mk PySem.F.excBase_ValueError PySem.F.store_ValueError rfl ?l4 ?t4 ?hb4 ?sa4 ?ga4 ?gg4 ?nf4 ?iC4 ?tI4 ?kC4 ?lI4 ?cI4); (case l4 => k_is); (case t4 => rfl); (case hb4 => rfl); (case sa4 => k_is); (case ga4 => k_is); (case gg4 => k_is); (case nf4 => k_is); (case iC4 => k_is); (case tI4 => k_is); (case kC4 => k_is); (case lI4 => k_is); (case cI4 => k_is))
    (case x4 => (refine' DL.excI_mk (DL.clsB_mk ?xl4) ?xga4 ?xgg4 ?xha4 ?xhn4 ?xht4 ?xhb4 ?xho4); (case xl4 => k_is); (case xga4 => k_is); (case xgg4 => k_is); (case xha4 => k_is); (case xhn4 => k_is); (case xht4 => k_is); (case xhb4 => rfl); (case xho4 => rfl))
    (case d4 => decide +kernel)
    (case v5 => (refine' DL.excV_mk PySem.F.excBase_ValueError PySem.F.store_ValueError rfl ?l5 ?t5 ?hb5 ?sa5 ?ga5 ?gg5 ?nf5 ?iC5 ?tI5 ?kC5 ?lI5 ?cI5); (case l5 => k_is); (case t5 => rfl); (case hb5 => rfl); (case sa5 => k_is); (case ga5 => k_is); (case gg5 => k_is); (case nf5 => k_is); (case iC5 => k_is); (case tI5 => k_is); (case kC5 => k_is); (case lI5 => k_is); (case cI5 => k_is))
    (case x5 => (refine' DL.excI_mk (DL.clsB_mk ?xl5) ?xga5 ?xgg5 ?xha5 ?xhn5 ?xht5 ?xhb5 ?xho5); (case xl5 => k_is); (case xga5 => k_is); (case xgg5 => k_is); (case xha5 => k_is); (case xhn5 => k_is); (case xht5 => k_is); (case xhb5 => rfl); (case xho5 => rfl))
    (case d5 => decide +kernel)
    (case v6 => (refine' DL.excV_mk PySem.F.excBase_ValueError PySem.F.store_ValueError rfl ?l6 ?t6 ?hb6 ?sa6 ?ga6 ?gg6 ?nf6 ?iC6 ?tI6 ?kC6 ?lI6 ?cI6); (case l6 => k_is); (case t6 => rfl); (case hb6 => rfl); (case sa6 => k_is); (case ga6 => k_is); (case gg6 => k_is); (case nf6 => k_is); (case iC6 => k_is); (case tI6 => k_is); (case kC6 => k_is); (case lI6 => k_is); (case cI6 => k_is))
    (case x6 => (refine' DL.excI_mk (DL.clsB_mk ?xl6) ?xga6 ?xgg6 ?xha6 ?xhn6 ?xht6 ?xhb6 ?xho6); (case xl6 => k_is); (case xga6 => k_is); (case xgg6 => k_is); (case xha6 => k_is); (case xhn6 => k_is); (case xht6 => k_is); (case xhb6 => rfl); (case xho6 => rfl))
    (case d6 => decide +kernel)
    (case v7 => (refine' DL.excV_mk PySem.F.excBase_ValueError PySem.F.store_ValueError rfl ?l7 ?t7 ?hb7 ?sa7 ?ga7 ?gg7 ?nf7 ?iC7 ?tI7 ?kC7 ?lI7 ?cI7); (case l7 => k_is); (case t7 => rfl); (case hb7 => rfl); (case sa7 => k_is); (case ga7 => k_is); (case gg7 => k_is); (case nf7 => k_is); (case iC7 => k_is); (case tI7 => k_is); (case kC7 => k_is); (case lI7 => k_is); (case cI7 => k_is))
    (case x7 => (refine' DL.excI_mk (DL.clsB_mk ?xl7) ?xga7 ?xgg7 ?xha7 ?xhn7 ?xht7 ?xhb7 ?xho7); (case xl7 => k_is); (case xga7 => k_is); (case xgg7 => k_is); (case xha7 => k_is); (case xhn7 => k_is); (case xht7 => k_is); (case xhb7 => rfl); (case xho7 => rfl))
    (case d7 => decide +kernel)
    (case v8 => (refine' DL.excV_mk PySem.F.excBase_ValueError PySem.F.store_ValueError rfl ?l8 ?t8 ?hb8 ?sa8 ?ga8 ?gg8 ?nf8 ?iC8 ?tI8 ?kC8 ?lI8 ?cI8); (case l8 => k_is); (case t8 => rfl); (case hb8 => rfl); (case sa8 => k_is); (case ga8 => k_is); (case gg8 => k_is); (case nf8 => k_is); (case iC8 => k_is); (case tI8 => k_is); (case kC8 => k_is); (case lI8 => k_is); (case cI8 => k_is))
    (case x8 => (refine' DL.excI_mk (DL.clsB_mk ?xl8) ?xga8 ?xgg8 ?xha8 ?xhn8 ?xht8 ?xhb8 ?xho8); (case xl8 => k_is); (case xga8 => k_is); (case xgg8 => k_is); (case xha8 => k_is); (case xhn8 => k_is); (case xht8 => k_is); (case xhb8 => rfl); (case xho8 => rfl))
    (case d8 => decide +kernel)
    (case v9 => (refine' DL.excV_mk PySem.F.excBase_ValueError PySem.F.store_ValueError rfl ?l9 ?t9 ?hb9 ?sa9 ?ga9 ?gg9 ?nf9 ?iC9 ?tI9 ?kC9 ?lI9 ?cI9); (case l9 => k_is); (case t9 => rfl); (case hb9 => rfl); (case sa9 => k_is); (case ga9 => k_is); (case gg9 => k_is); (case nf9 => k_is); (case iC9 => k_is); (case tI9 => k_is); (case kC9 => k_is); (case lI9 => k_is); (case cI9 => k_is))
    (case x9 => (refine' DL.excI_mk (DL.clsB_mk ?xl9) ?xga9 ?xgg9 ?xha9 ?xhn9 ?xht9 ?xhb9 ?xho9); (case xl9 => k_is); (case xga9 => k_is); (case xgg9 => k_is); (case xha9 => k_is); (case xhn9 => k_is); (case xht9 => k_is); (case xhb9 => rfl); (case xho9 => rfl))
    (case d9 => decide +kernel)
    (case v10 => (refine' DL.excV_mk PySem.F.excBase_ValueError PySem.F.store_ValueError rfl ?l10 ?t10 ?hb10 ?sa10 ?ga10 ?gg10 ?nf10 ?iC10 ?tI10 ?kC10 ?lI10 ?cI10); (case l10 => k_is); (case t10 => rfl); (case hb10 => rfl); (case sa10 => k_is); (case ga10 => k_is); (case gg10 => k_is); (case nf10 => k_is); (case iC10 => k_is); (case tI10 => k_is); (case kC10 => k_is); (case lI10 => k_is); (case cI10 => k_is))
    (case x10 => (refine' DL.excI_mk (DL.clsB_mk ?xl10) ?xga10 ?xgg10 ?xha10 ?xhn10 ?xht10 ?xhb10 ?xho10); (case xl10 => k_is); (case xga10 => k_is); (case xgg10 => k_is); (case xha10 => k_is); (case xhn10 => k_is); (case xht10 => k_is); (case xhb10 => rfl); (case xho10 => rfl))
    (case d10 => decide +kernel)
    (case v11 => (refine' DL.excV_mk PySem.F.excBase_ValueError PySem.F.store_ValueError rfl ?l11 ?t11 ?hb11 ?sa11 ?ga11 ?gg11 ?nf11 ?iC11 ?tI11 ?kC11 ?lI11 ?cI11); (case l11 => k_is); (case t11 => rfl); (case hb11 => rfl); (case sa11 => k_is); (case ga11 => k_is); (case gg11 => k_is); (case nf11 => k_is); (case iC11 => k_is); (case tI11 => k_is); (case kC11 => k_is); (case lI11 => k_is); (case cI11 => k_is))
    (case x11 => (refine' DL.excI_mk (DL.clsB_mk ?xl11) ?xga11 ?xgg11 ?xha11 ?xhn11 ?xht11 ?xhb11 ?xho11); (case xl11 => k_is); (case xga11 => k_is); (case xgg11 => k_is); (case xha11 => k_is); (case xhn11 => k_is); (case xht11 => k_is); (case xhb11 => rfl); (case xho11 => rfl))
    (case d11 => decide +kernel)
    (case v12 => (refine' DL.excV_mk PySem.F.excBase_ValueError PySem.F.store_ValueError rfl ?l12 ?t12 ?hb12 ?sa12 ?ga12 ?gg12 ?nf12 ?iC12 ?tI12 ?kC12 ?lI12 ?cI12); (case l12 => k_is); (case t12 => rfl); (case hb12 => rfl); (case sa12 => k_is); (case ga12 => k_is); (case gg12 => k_is); (case nf12 => k_is); (case iC12 => k_is); (case tI12 => k_is); (case kC12 => k_is); (case lI12 => k_is); (case cI12 => k_is))
    (case x12 => (refine' DL.excI_mk (DL.clsB_mk ?xl12) ?xga12 ?xgg12 ?xha12 ?xhn12 ?xht12 ?xhb12 ?xho12); (case xl12 => k_is); (case xga12 => k_is); (case xgg12 => k_is); (case xha12 => k_is); (case xhn12 => k_is); (case xht12 => k_is); (case xhb12 => rfl); (case xho12 => rfl))
    (case d12 => decide +kernel)
    (case v13 => (refine' DL.excV_mk PySem.F.excBase_ValueError PySem.F.store_ValueError rfl ?l13 ?t13 ?hb13 ?sa13 ?ga13 ?gg13 ?nf13 ?iC13 ?tI13 ?kC13 ?lI13 ?cI13); (case l13 => k_is); (case t13 => rfl); (case hb13 => rfl); (case sa13 => k_is); (case ga13 => k_is); (case gg13 => k_is); (case nf13 => k_is); (case iC13 => k_is); (case tI13 => k_is); (case kC13 => k_is); (case lI13 => k_is); (case cI13 => k_is))
    (case x13 => (refine' DL.excI_mk (DL.clsB_mk ?xl13) ?xga13 ?xgg13 ?xha13 ?xhn13 ?xht13 ?xhb13 ?xho13); (case xl13 => k_is); (case xga13 => k_is); (case xgg13 => k_is); (case xha13 => k_is); (case xhn13 => k_is); (case xht13 => k_is); (case xhb13 => rfl); (case xho13 => rfl))
    (case d13 => decide +kernel)
    (case v14 => (refine' DL.excV_mk PySem.F.excBase_ValueError PySem.F.store_ValueError rfl ?l14 ?t14 ?hb14 ?sa14 ?ga14 ?gg14 ?nf14 ?iC14 ?tI14 ?kC14 ?lI14 ?cI14); (case l14 => k_is); (case t14 => rfl); (case hb14 => rfl); (case sa14 => k_is); (case ga14 => k_is); (case gg14 => k_is); (case nf14 => k_is); (case iC14 => k_is); (case tI14 => k_is); (case kC14 => k_is); (case lI14 => k_is); (case cI14 => k_is))
    (case x14 => (refine' DL.excI_mk (DL.clsB_mk ?xl14) ?xga14 ?xgg14 ?xha14 ?xhn14 ?xht14 ?xhb14 ?xho14); (case xl14 => k_is); (case xga14 => k_is); (case xgg14 => k_is); (case xha14 => k_is); (case xhn14 => k_is); (case xht14 => k_is); (case xhb14 => rfl); (case xho14 => rfl))
    (case d14 => decide +kernel)
    (case v15 => (refine' DL.excV_mk PySem.F.excBase_ValueError PySem.F.store_ValueError rfl ?l15 ?t15 ?hb15 ?sa15 ?ga15 ?gg15 ?nf15 ?iC15 ?tI15 ?kC15 ?lI15 ?cI15); (case l15 => k_is); (case t15 => rfl); (case hb15 => rfl); (case sa15 => k_is); (case ga15 => k_is); (case gg15 => k_is); (case nf15 => k_is); (case iC15 => k_is); (case tI15 => k_is); (case kC15 => k_is); (case lI15 => k_is); (case cI15 => k_is))
    (case x15 => (refine' DL.excI_mk (DL.clsB_mk ?xl15) ?xga15 ?xgg15 ?xha15 ?xhn15 ?xht15 ?xhb15 ?xho15); (case xl15 => k_is); (case xga15 => k_is); (case xgg15 => k_is); (case xha15 => k_is); (case xhn15 => k_is); (case xht15 => k_is); (case xhb15 => rfl); (case xho15 => rfl))
    (case d15 => decide +kernel)
    (case v16 => (refine' DL.excV_mk PySem.F.excBase_ValueError PySem.F.store_ValueError rfl ?l16 ?t16 ?hb16 ?sa16 ?ga16 ?gg16 ?nf16 ?iC16 ?tI16 ?kC16 ?lI16 ?cI16); (case l16 => k_is); (case t16 => rfl); (case hb16 => rfl); (case sa16 => k_is); (case ga16 => k_is); (case gg16 => k_is); (case nf16 => k_is); (case iC16 => k_is); (case tI16 => k_is); (case kC16 => k_is); (case lI16 => k_is); (case cI16 => k_is))
    (case x16 => (refine' DL.excI_mk (DL.clsB_mk ?xl16) ?xga16 ?xgg16 ?xha16 ?xhn16 ?xht16 ?xhb16 ?xho16); (case xl16 => k_is); (case xga16 => k_is); (case xgg16 => k_is); (case xha16 => k_is); (case xhn16 => k_is); (case xht16 => k_is); (case xhb16 => rfl); (case xho16 => rfl))
    (case d16 => decide +kernel)
    (case v17 => (refine' DL.excV_mk PySem.F.excBase_ValueError PySem.F.store_ValueError rfl ?l17 ?t17 ?hb17 ?sa17 ?ga17 ?gg17 ?nf17 ?iC17 ?tI17 ?kC17 ?lI17 ?cI17); (case l17 => k_is); (case t17 => rfl); (case hb17 => rfl); (case sa17 => k_is); (case ga17 => k_is); (case gg17 => k_is); (case nf17 => k_is); (case iC17 => k_is); (case tI17 => k_is); (case kC17 => k_is); (case lI17 => k_is); (case cI17 => k_is))
    (case x17 => (refine' DL.excI_mk (DL.clsB_mk ?xl17) ?xga17 ?xgg17 ?xha17 ?xhn17 ?xht17 ?xhb17 ?xho17); (case xl17 => k_is); (case xga17 => k_is); (case xgg17 => k_is); (case xha17 => k_is); (case xhn17 => k_is); (case xht17 => k_is); (case xhb17 => rfl); (case xho17 => rfl))
    (case d17 => decide +kernel)
    (case v18 => (refine' ⟨_, _, _, _, PySem.F.excBase_LookupError, ?q18, ?k18⟩); (case q18 => k_exc); (case k18 => k_is))
    (case x18 => (refine' DL.excI_mk (DL.clsB_mk ?xl18) ?xga18 ?xgg18 ?xha18 ?xhn18 ?xht18 ?xhb18 ?xho18); (case xl18 => k_is); (case xga18 => k_is); (case xgg18 => k_is); (case xha18 => k_is); (case xhn18 => k_is); (case xht18 => k_is); (case xhb18 => rfl); (case xho18 => rfl))
    (case d18 => decide +kernel)
    (case v19 => (refine' ⟨_, _, _, _, PySem.F.excBase_LookupError, ?q19, ?k19⟩); (case q19 => k_exc); (case k19 => k_is))
    (case x19 => (refine' DL.excI_mk (DL.clsB_mk ?xl19) ?xga19 ?xgg19 ?xha19 ?xhn19 ?xht19 ?xhb19 ?xho19); (case xl19 => k_is); (case xga19 => k_is); (case xgg19 => k_is); (case xha19 => k_is); (case xhn19 => k_is); (case xht19 => k_is); (case xhb19 => rfl); (case xho19 => rfl))
    (case d19 => decide +kernel)
    (case v20 => (refine' DL.excV_mk PySem.F.excBase_LookupError PySem.F.store_LookupError rfl ?l20 ?t20 ?hb20 ?sa20 ?ga20 ?gg20 ?nf20 ?iC20 ?tI20 ?kC20 ?lI20 ?cI20); (case l20 => k_is); (case t20 => rfl); (case hb20 => rfl); (case sa20 => k_is); (case ga20 => k_is); (case gg20 => k_is); (case nf20 => k_is); (case iC20 => k_is); (case tI20 => k_is); (case kC20 => k_is); (case lI20 => k_is); (case cI20 => k_is))
    (case x20 => (refine' DL.excI_mk (DL.clsB_mk ?xl20) ?xga20 ?xgg20 ?xha20 ?xhn20 ?xht20 ?xhb20 ?xho20); (case xl20 => k_is); (case xga20 => k_is); (case xgg20 => k_is); (case xha20 => k_is); (case xhn20 => k_is); (case xht20 => k_is); (case xhb20 => rfl); (case xho20 => rfl))
    (case d20 => decide +kernel)
    (case v21 => (refine' DL.excV_mk PySem.F.excBase_ArithmeticError PySem.F.store_ArithmeticError rfl ?l21 ?t21 ?hb21 ?sa21 ?ga21 ?gg21 ?nf21 ?iC21 ?tI21 ?kC21 ?lI21 ?cI21); (case l21 => k_is); (case t21 => rfl); (case hb21 => rfl); (case sa21 => k_is); (case ga21 => k_is); (case gg21 => k_is); (case nf21 => k_is); (case iC21 => k_is); (case tI21 => k_is); (case kC21 => k_is); (case lI21 => k_is); (case cI21 => k_is))
    (case x21 => (refine' DL.excI_mk (DL.clsB_mk ?xl21) ?xga21 ?xgg21 ?xha21 ?xhn21 ?xht21 ?xhb21 ?xho21); (case xl21 => k_is); (case xga21 => k_is); (case xgg21 => k_is); (case xha21 => k_is); (case xhn21 => k_is); (case xht21 => k_is); (case xhb21 => rfl); (case xho21 => rfl))
    (case d21 => decide +kernel)
    (case m_MOST_PARTS => k_is)
    (case m_MOST_FIELDS => k_is)
    (case m_MOST_WIDTH => k_is)
    (case m_MOST_GROUP => k_is)
    (case m_MOST_LENGTH => k_is)
    (case m_MOST_KINDS => k_is)
    (case z_len => k_is)
    (case z_abs => k_is)
    (case z_int => k_is)
    (case z_min => k_is)
    (case z_max => k_is)
    (case z_range => k_is)
    (case z_all => k_is)
    (case z_isinstance => k_is)
    (case z_repr => k_is)
    (case z_ValueError => k_is)
    (case z_LookupError => k_is)
    (case z_ArithmeticError => k_is)
    (case aF_pot => k_is)
    (case lF_pot => k_is)
    (case cF_pot => k_is)
    (case kF_pot => k_is)
    (case aF_spoon => k_is)
    (case lF_spoon => k_is)
    (case cF_spoon => k_is)
    (case kF_spoon => k_is)
    (case aF_of => k_is)
    (case lF_of => k_is)
    (case cF_of => k_is)
    (case kF_of => k_is)
    (case aF_values => k_is)
    (case lF_values => k_is)
    (case cF_values => k_is)
    (case kF_values => k_is)
    (case aF_indexes => k_is)
    (case lF_indexes => k_is)
    (case cF_indexes => k_is)
    (case kF_indexes => k_is)
    (case aF_kept_right => k_is)
    (case lF_kept_right => k_is)
    (case cF_kept_right => k_is)
    (case kF_kept_right => k_is)
    (case aF_classes => k_is)
    (case lF_classes => k_is)
    (case cF_classes => k_is)
    (case kF_classes => k_is)
    (case aF_kin => k_is)
    (case lF_kin => k_is)
    (case cF_kin => k_is)
    (case kF_kin => k_is)
    (case aF_right => k_is)
    (case lF_right => k_is)
    (case cF_right => k_is)
    (case kF_right => k_is)
    (case aF_law => k_is)
    (case lF_law => k_is)
    (case cF_law => k_is)
    (case kF_law => k_is)
