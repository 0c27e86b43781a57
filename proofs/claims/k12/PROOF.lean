import PyProof.Rows.All
import Wide.All
import OpenK.AllK
import Wide.FinOn
import HandS.ForMost
import HandS.ForExc
import HandS.IsInst
import HandS.TupAny
import HandS.Wide
import HandS.Exc
import HandS.ExcOwn
import HandS.TupMul
import HandS.Iter
import HandS.TryOnly
import HandS.Style
import HandS.Deep
import HandS.Rev
import HandS.Zip
import HandS.ExcIs
import HandS.SortKw
import KE.SortKeyHeap
import KE.GoesMore
import KE.GoesZip
import HandS.SetFor
import KE.KTupSum
import HandS.More
import HandS.Dict
import HandS.Conv
import HandS.TupSets
import HandS.Strs
import PyProof.StrOps2
import KE.GoesRaise
import HandS.ExcCtx
import HandS.SuiteRaise
import PySem.Challenge.RW_longrounds_k12_programs_refused
set_option Elab.async false
set_option linter.all false
set_option maxRecDepth 100000
set_option maxHeartbeats 4000000
set_option Elab.async false
set_option linter.all false
set_option maxRecDepth 100000
set_option maxHeartbeats 4000000
/-! The layer LR, part a: data on the heap, cells, what is kept, judgements of expressions. -/
namespace LR
open PySem PySem.Spec PyProof.Rows L2

/-- an object of the def's own that may still change -/
inductive Ob where
  | lst (ds : List PyData)
  | dct (kvs : List (Key × PyData))
  | dtt (kvs : List (List Key × PyData))
/-- what is known of a name (rf: it holds that reference; tpo: of results alone: a new tuple of data ds and behind them a new list es; kn: that reference, which is such data) -/
inductive C where
  | un
  | dat (d : PyData)
  | own (o : Ob)
  | rf (a : Addr)
  | tpo (ds es : List PyData)
  | kn (a : Addr) (d : PyData)

/-- the first is a text -/
def strs1 : List PyData → Bool
  | .str _ :: _ => true
  | _ => false
/-- a tuple of texts that is known whole -/
abbrev fzD (ds : List PyData) : PyData := .dict [(.none, .tuple ds)]
/-! data on the heap; tuples are tracked objects -/
mutual
inductive Dp (K : PySem.W.Frag) (H : Hp) : V → PyData → Prop
  | non : Dp K H .non .none
  | bl (b : Bool) : Dp K H (.bl b) (.bool b)
  | int (i : Int) : Dp K H (.int i) (.int i)
  | str (x : Str) : Dp K H (.str x) (.str x)
  | lst {a : Addr} {xs : List V} {ds : List PyData} : SqL K H a xs → DpAll K H xs ds → Dp K H (.ref a) (.list ds)
  | tup {a : Addr} {xs : List V} {ds : List PyData} : H a = some (.tup xs) → DpAll K H xs ds → Dp K H (.ref a) (.tuple ds)
  | dic {a : Addr} {kvs : List (Key × V)} : H a = some (.dK kvs) → Dp K H (.ref a) (.dict [])
  | tpf {a : Addr} {o : Obj} {xs : List V} {ds : List PyData} : H a = some (.frz o (.tup xs)) → strs1 ds = true → DpAll K H xs ds → Dp K H (.ref a) (.tuple ds)
  | fz {a : Addr} {o : Obj} {xs : List V} {ds : List PyData} : H a = some (.frz o (.tup xs)) → o.dict = none → strs1 ds = true → DpAll K H xs ds → Dp K H (.ref a) (.dict [(.none, .tuple ds)])
inductive DpAll (K : PySem.W.Frag) (H : Hp) : List V → List PyData → Prop
  | nil : DpAll K H [] []
  | cons {v : V} {vs : List V} {d : PyData} {ds : List PyData} : Dp K H v d → DpAll K H vs ds → DpAll K H (v :: vs) (d :: ds)
end
section
variable {K : PySem.W.Frag}
mutual
theorem Dp.kit0 {H : Hp} : ∀ {v : V} {d : PyData}, Dp K H v d → d.canLay0 = true → L2.Dp K H v d
  | _, _, .non, _ => .non
  | _, _, .bl b, _ => .bl b
  | _, _, .int i, _ => .int i
  | _, _, .str x, _ => .str x
  | _, _, .lst h a, l => .lst h (DpAll.kit0 a (by simpa [PyData.canLay0] using l))
  | _, _, .tup h a, l => .tup (.inl (.inl h)) (DpAll.kit0 a (by simpa [PyData.canLay0] using l))
  | _, _, .dic h, l => by simp [PyData.canLay0] at l
  | _, _, .tpf h _ a, l => .tup (.inl (.inr ⟨_, h⟩)) (DpAll.kit0 a (by simpa [PyData.canLay0] using l))
  | _, _, .fz _ _ _ _, l => by simp [PyData.canLay0] at l
theorem DpAll.kit0 {H : Hp} : ∀ {vs : List V} {ds : List PyData}, DpAll K H vs ds → PyData.canLayAll0 ds = true → L2.DpAll K H vs ds
  | _, _, .nil, _ => .nil
  | _, _, .cons h t, l => by
    simp only [PyData.canLayAll0, Bool.and_eq_true] at l
    exact .cons (Dp.kit0 h l.1) (DpAll.kit0 t l.2)
end
theorem Dp.kit {H : Hp} {v : V} {d : PyData} (h : Dp K H v d) (s : SeqAt.shaped d = true) : L2.Dp K H v d := h.kit0 (by
  unfold SeqAt.shaped at s
  rw [Bool.and_eq_true] at s
  exact s.1)
mutual
theorem dp_mono {H H' : Hp} (e : Same H H') : ∀ {v : V} {d : PyData}, Dp K H v d → Dp K H' v d
  | _, _, .non => .non
  | _, _, .bl b => .bl b
  | _, _, .int i => .int i
  | _, _, .str x => .str x
  | _, _, .lst h a => .lst (e.seq h) (dpAll_mono e a)
  | _, _, .tup h a => .tup (e _ _ h) (dpAll_mono e a)
  | _, _, .dic h => .dic (e _ _ h)
  | _, _, .tpf h s a => .tpf (e _ _ h) s (dpAll_mono e a)
  | _, _, .fz h d s a => .fz (e _ _ h) d s (dpAll_mono e a)
theorem dpAll_mono {H H' : Hp} (e : Same H H') : ∀ {vs : List V} {ds : List PyData}, DpAll K H vs ds → DpAll K H' vs ds
  | _, _, .nil => .nil
  | _, _, .cons h t => .cons (dp_mono e h) (dpAll_mono e t)
end
theorem same_l {H H' : Hp} {a : Addr} {xs : List V} (e : Same H H') (h : SqL K H a xs) : SqL K H' a xs := e.seq h
theorem same_t {H H' : Hp} {a : Addr} {xs : List V} (e : Same H H') (h : SqT K H a xs) : SqT K H' a xs := by
  rcases h with (h | ⟨o, h⟩) | h
  · exact .inl (.inl (e _ _ h))
  · exact .inl (.inr ⟨o, e _ _ h⟩)
  · exact .inr h
theorem dpAll_len {H : Hp} : ∀ {vs : List V} {ds : List PyData}, DpAll K H vs ds → vs.length = ds.length
  | _, _, .nil => rfl
  | _, _, .cons _ t => by rw [List.length_cons, List.length_cons, dpAll_len t]
theorem dpAll_get {H : Hp} : ∀ {vs : List V} {ds : List PyData}, DpAll K H vs ds → ∀ {i : Nat} {d : PyData}, ds[i]? = some d → ∃ v, vs[i]? = some v ∧ Dp K H v d
  | _, _, .nil, _, _, e => by simp at e
  | _, _, .cons h _, 0, _, e => by simp at e; subst e; exact ⟨_, rfl, h⟩
  | _, _, .cons _ t, i + 1, d, e => by
    obtain ⟨v, h1, h2⟩ := dpAll_get t (i := i) (d := d) (by simpa using e)
    exact ⟨v, by simpa using h1, h2⟩
theorem dpAll_getV {H : Hp} : ∀ {vs : List V} {ds : List PyData}, DpAll K H vs ds → ∀ {i : Nat} {v : V}, vs[i]? = some v → ∃ d, ds[i]? = some d ∧ Dp K H v d
  | _, _, .nil, _, _, e => by simp at e
  | _, _, .cons h _, 0, _, e => by simp at e; subst e; exact ⟨_, rfl, h⟩
  | _, _, .cons _ t, i + 1, d, e => by
    obtain ⟨v, h1, h2⟩ := dpAll_getV t (i := i) (v := d) (by simpa using e)
    exact ⟨v, by simpa using h1, h2⟩
theorem dpAll_append {H : Hp} : ∀ {vs ws : List V} {ds es : List PyData}, DpAll K H vs ds → DpAll K H ws es → DpAll K H (vs ++ ws) (ds ++ es)
  | _, _, _, _, .nil, s => s
  | _, _, _, _, .cons h t, s => .cons h (dpAll_append t s)
theorem dpAll_one {H : Hp} {v : V} {d : PyData} (h : Dp K H v d) : DpAll K H [v] [d] := .cons h .nil
theorem dpAll_take {H : Hp} : ∀ {vs : List V} {ds : List PyData} (n : Nat), DpAll K H vs ds → DpAll K H (vs.take n) (ds.take n)
  | _, _, 0, _ => .nil
  | _, _, _ + 1, .nil => .nil
  | _, _, n + 1, .cons h t => .cons h (dpAll_take n t)
theorem dpAll_drop {H : Hp} : ∀ {vs : List V} {ds : List PyData} (n : Nat), DpAll K H vs ds → DpAll K H (vs.drop n) (ds.drop n)
  | _, _, 0, h => h
  | _, _, _ + 1, .nil => .nil
  | _, _, n + 1, .cons _ t => dpAll_drop n t
theorem dpAll_set {H : Hp} {v : V} {d : PyData} (h : Dp K H v d) : ∀ {vs : List V} {ds : List PyData} (n : Nat), DpAll K H vs ds → DpAll K H (vs.set n v) (ds.set n d)
  | _, _, _, .nil => .nil
  | _, _, 0, .cons _ t => .cons h t
  | _, _, n + 1, .cons q t => .cons q (dpAll_set h n t)
theorem dpAll_dropLast {H : Hp} {vs : List V} {ds : List PyData} (h : DpAll K H vs ds) : DpAll K H vs.dropLast ds.dropLast := by
  rw [List.dropLast_eq_take, List.dropLast_eq_take, dpAll_len h]
  exact dpAll_take _ h
theorem dpAll_reverse {H : Hp} : ∀ {vs : List V} {ds : List PyData}, DpAll K H vs ds → DpAll K H vs.reverse ds.reverse
  | _, _, .nil => .nil
  | _, _, .cons h t => by
    rw [List.reverse_cons, List.reverse_cons]
    exact dpAll_append (dpAll_reverse t) (dpAll_one h)
theorem dpAll_ints {H : Hp} : ∀ (ns : List Int), DpAll K H (ns.map V.int) (ns.map PyData.int)
  | [] => .nil
  | n :: r => .cons (.int n) (dpAll_ints r)
theorem dp_int {H : Hp} {v : V} {i : Int} (h : Dp K H v (.int i)) : v = .int i := by cases h; rfl
theorem dp_str {H : Hp} {v : V} {x : Str} (h : Dp K H v (.str x)) : v = .str x := by cases h; rfl
theorem dp_bool {H : Hp} {v : V} {b : Bool} (h : Dp K H v (.bool b)) : v = .bl b := by cases h; rfl
theorem dp_none {H : Hp} {v : V} (h : Dp K H v .none) : v = .non := by cases h; rfl
theorem dp_tup {H : Hp} {v : V} {ds : List PyData} (h : Dp K H v (.tuple ds)) : ∃ a xs, v = .ref a ∧ SqT K H a xs ∧ DpAll K H xs ds := by
  cases h with
  | tup h a => exact ⟨_, _, rfl, .inl (.inl h), a⟩
  | tpf h _ a => exact ⟨_, _, rfl, .inl (.inr ⟨_, h⟩), a⟩
theorem dp_tupH {H : Hp} {v : V} {ds : List PyData} (h : Dp K H v (.tuple ds)) (hs : strs1 ds = false) : ∃ a xs, v = .ref a ∧ H a = some (.tup xs) ∧ DpAll K H xs ds := by
  cases h with
  | tup h a => exact ⟨_, _, rfl, h, a⟩
  | tpf _ s _ => rw [s] at hs; cases hs
theorem dp_fz {H : Hp} {v : V} {ds : List PyData} (h : Dp K H v (fzD ds)) : ∃ a o xs, v = .ref a ∧ H a = some (.frz o (.tup xs)) ∧ o.dict = none ∧ strs1 ds = true ∧ DpAll K H xs ds := by
  cases h with
  | fz h d s a => exact ⟨_, _, _, rfl, h, d, s, a⟩
theorem dp_fzW {H : Hp} {v : V} {ds : List PyData} (h : Dp K H v (fzD ds)) : Dp K H v (.tuple ds) := by
  cases h with
  | fz h d s a => exact .tpf h s a
theorem dp_lst {H : Hp} {v : V} {ds : List PyData} (h : Dp K H v (.list ds)) : ∃ a xs, v = .ref a ∧ SqL K H a xs ∧ DpAll K H xs ds := by cases h; exact ⟨_, _, rfl, by assumption, by assumption⟩
theorem ints_of {H : Hp} : ∀ {vs : List V} {ns : List Int}, DpAll K H vs (ns.map PyData.int) → vs = ns.map V.int
  | _, [], .nil => rfl
  | _, n :: r, .cons h t => by rw [dp_int h, ints_of t]; rfl
theorem strs_of {H : Hp} : ∀ {vs : List V} {ns : List Str}, DpAll K H vs (ns.map PyData.str) → vs = ns.map V.str
  | _, [], .nil => rfl
  | _, n :: r, .cons h t => by rw [dp_str h, strs_of t]; rfl
theorem bls_of {H : Hp} : ∀ {vs : List V} {ns : List Bool}, DpAll K H vs (ns.map PyData.bool) → vs = ns.map V.bl
  | _, [], .nil => rfl
  | _, n :: r, .cons h t => by rw [dp_bool h, bls_of t]; rfl

def ObAt (K : PySem.W.Frag) (I : Hp) : HO → Ob → Prop
  | .lst vs, .lst ds => DpAll K I vs ds
  | .dK kvs, .dct es => kvs.map (·.1) = es.map (·.1) ∧ DpAll K I (kvs.map (·.2)) (es.map (·.2))
  | .dT kvs, .dtt es => kvs.map (·.1) = es.map (·.1) ∧ DpAll K I (kvs.map (·.2)) (es.map (·.2))
  | _, _ => False
theorem obAt_mono {I I' : Hp} (e : Same I I') : ∀ {o : HO} {b : Ob}, ObAt K I o b → ObAt K I' o b := by
  intro o b h
  cases o <;> cases b <;> first
    | exact dpAll_mono e h
    | exact ⟨h.1, dpAll_mono e h.2⟩
    | exact h
theorem obAt_lst {I : Hp} {o : HO} {ds : List PyData} (h : ObAt K I o (.lst ds)) : ∃ vs, o = .lst vs ∧ DpAll K I vs ds := by
  cases o <;> first | exact ⟨_, rfl, h⟩ | exact h.elim

/-- from (I, H) to (I', H'): nothing that stood has changed, and what is new in I' was new -/
structure Grow (I H I' H' : Hp) : Prop where
  ii : Same I I'
  hh : Same H H'
  ih : Same I' H'
  nw : ∀ q o, H q = some o → I q = none → I' q = none
theorem Grow.refl {I H : Hp} (e : Same I H) : Grow I H I H := ⟨Same.refl _, Same.refl _, e, fun _ _ _ h => h⟩
theorem Grow.trans {I H I1 H1 I2 H2 : Hp} (a : Grow I H I1 H1) (b : Grow I1 H1 I2 H2) : Grow I H I2 H2 :=
  ⟨a.ii.trans b.ii, a.hh.trans b.hh, b.ih, fun q o h n => b.nw q o (a.hh q o h) (a.nw q o h n)⟩
theorem Grow.ih0 {I H I' H' : Hp} (e : Same I H) (a : Grow I H I' H') : Same I H' := fun b o h => a.hh b o (e b o h)
/-- a new object, known to both -/
theorem Grow.new {I H : Hp} {p : Addr} {o : HO} (e : Same I H) (n : H p = none) : Grow I H (upd I p o) (upd H p o) where
  ii := fun b u h => by rw [upd_ne (ne_of_none h (e.free n))]; exact h
  hh := fun b u h => by rw [upd_ne (ne_of_none h n)]; exact h
  ih := fun b u h => by
    by_cases hb : b = p
    · subst hb; rw [upd_same] at h ⊢; exact h
    · rw [upd_ne hb] at h ⊢; exact e b u h
  nw := fun q u h n' => by rw [upd_ne (ne_of_none h n)]; exact n'
/-- a new object, known to the heap alone -/
theorem Grow.newH {I H : Hp} {p : Addr} {o : HO} (e : Same I H) (n : H p = none) : Grow I H I (upd H p o) where
  ii := Same.refl _
  hh := fun b u h => by rw [upd_ne (ne_of_none h n)]; exact h
  ih := fun b u h => by rw [upd_ne (ne_of_none (e b u h) n)]; exact e b u h
  nw := fun _ _ _ h => h
/-- an object that is new since, becomes known -/
theorem Grow.know {I H I' H' : Hp} {p : Addr} {o : HO} (g : Grow I H I' H') (n : H p = none) (n' : I' p = none) (h' : H' p = some o) : Grow I H (upd I' p o) H' where
  ii := fun b u h => by
    have h1 := g.ii b u h
    rw [upd_ne (ne_of_none h1 n')]; exact h1
  hh := g.hh
  ih := fun b u h => by
    by_cases hb : b = p
    · subst hb; rw [upd_same] at h; rw [← h]; exact h'
    · rw [upd_ne hb] at h; exact g.ih b u h
  nw := fun q u h m => by rw [upd_ne (ne_of_none h n)]; exact g.nw q u h m
/-- an object that is new since, and not known, changes -/
theorem Grow.mut {I H I' H' : Hp} {p : Addr} {o : HO} (g : Grow I H I' H') (n : H p = none) (n' : I' p = none) : Grow I H I' (upd H' p o) where
  ii := g.ii
  hh := fun b u h => by rw [upd_ne (ne_of_none h n)]; exact g.hh b u h
  ih := fun b u h => by rw [upd_ne (ne_of_none h n')]; exact g.ih b u h
  nw := g.nw

def CellAt (K : PySem.W.Frag) (H0 I H : Hp) (x : Option (Option V)) : C → Prop
  | .un => True
  | .dat d => ∃ v, x = some (some v) ∧ Dp K I v d
  | .own b => ∃ p o, x = some (some (.ref p)) ∧ H0 p = none ∧ I p = none ∧ H p = some o ∧ ObAt K I o b
  | .rf a => x = some (some (.ref a))
  | .tpo _ _ => True
  | .kn a d => x = some (some (.ref a)) ∧ Dp K I (.ref a) d
def isOwn : Option C → Prop
  | some (.own _) => True
  | _ => False
/-- the state A of the names holds -/
structure Rel (K : PySem.W.Frag) (I0 H0 : Hp) (A : List C) (σ : L2.St) (I H : Hp) : Prop where
  gr : Grow I0 H0 I H
  len : σ.length = A.length
  cell : ∀ (i : Nat) (c : C), A[i]? = some c → CellAt K H0 I H σ[i]? c
  apart : ∀ (i j : Nat) (p : Addr), i ≠ j → isOwn A[i]? → isOwn A[j]? → σ[i]? = some (some (.ref p)) → σ[j]? ≠ some (some (.ref p))
theorem Rel.grow {I0 H0 I H I' H' : Hp} {A : List C} {σ : L2.St} (r : Rel K I0 H0 A σ I H) (g : Grow I H I' H') : Rel K I0 H0 A σ I' H' where
  gr := r.gr.trans g
  len := r.len
  cell := fun i c h => by
    have q := r.cell i c h
    cases c with
    | un => trivial
    | dat d => obtain ⟨v, e, hd⟩ := q; exact ⟨v, e, dp_mono g.ii hd⟩
    | own b => obtain ⟨p, o, e, n0, n, ho, hb⟩ := q; exact ⟨p, o, e, n0, g.nw p o ho n, g.hh p o ho, obAt_mono g.ii hb⟩
    | rf a => exact q
    | tpo ds es => trivial
    | kn a d => exact ⟨q.1, dp_mono g.ii q.2⟩
  apart := r.apart
theorem Rel.ih {I0 H0 I H : Hp} {A : List C} {σ : L2.St} (r : Rel K I0 H0 A σ I H) : Same I H := r.gr.ih

/-- a result -/
def VR (K : PySem.W.Frag) (H I' H' : Hp) (v : V) : C → Prop
  | .un => True
  | .dat d => Dp K I' v d
  | .own b => ∃ p o, v = .ref p ∧ H p = none ∧ I' p = none ∧ H' p = some o ∧ ObAt K I' o b
  | .rf a => v = .ref a
  | .kn a d => v = .ref a ∧ Dp K I' v d
  | .tpo ds es => ∃ p q vs us, v = .ref p ∧ H p = none ∧ I' p = none ∧ H' p = some (.tup (vs ++ [.ref q])) ∧ DpAll K I' vs ds ∧ H q = none ∧ I' q = none ∧ H' q = some (.lst us) ∧ DpAll K I' us es
theorem VR.back {H1 H I' H' : Hp} {v : V} {c : C} (e : Same H1 H) (h : VR K H I' H' v c) : VR K H1 I' H' v c := by
  cases c with
  | un => trivial
  | dat d => exact h
  | own b => obtain ⟨p, o, e1, n, r⟩ := h; exact ⟨p, o, e1, e.free n, r⟩
  | rf a => exact h
  | kn a d => exact h
  | tpo ds es => obtain ⟨p, q, vs, us, e1, n1, n2, h1, a1, m1, m2, h2, a2⟩ := h; exact ⟨p, q, vs, us, e1, e.free n1, n2, h1, a1, e.free m1, m2, h2, a2⟩
end

/-! ### judgements -/
section
variable (X : Cx)
def Wx (e : Expr) (σ : L2.St) (H : Hp) (Q : VK) : Prop := ∀ (pins : List (Addr × Obj)) (s : Shared), Inv X pins σ H s → wpAny (model X.prog X.w) X.A (eval e X.env) (EP X pins σ Q) X.xe s
def Wt (e : Expr) (σ : L2.St) (H : Hp) (Q : Bool → Hp → Prop) : Prop := ∀ (pins : List (Addr × Obj)) (s : Shared), Inv X pins σ H s → wpAny (model X.prog X.w) X.A (isTrue e X.env (eval e X.env)) (TP X pins σ Q) X.xe s
def Ww (e : Expr) (σ : L2.St) (H : Hp) (Q : Bool → Hp → Prop) : Prop := ∀ (whole : Sem Value) (pins : List (Addr × Obj)) (s : Shared), Inv X pins σ H s → wpAny (model X.prog X.w) X.A (isTrue e X.env whole) (TP X pins σ Q) X.xe s
def Wa (es : List Expr) (σ : L2.St) (H : Hp) (Q : List V → Hp → Prop) : Prop := ∀ (pos : Pos) (pins : List (Addr × Obj)) (s : Shared), Inv X pins σ H s → wpAny (model X.prog X.w) X.A (spliced (backTo pos (starEach es X.env))) (AP X pins σ Q) X.xe s
def Ws (st : Stmt) (D : Ends) (σ : L2.St) (H : Hp) : Prop := ∀ (pins : List (Addr × Obj)) (s : Shared), Inv X pins σ H s → wpAny (model X.prog X.w) X.A (exec st X.env) (SP X pins D) X.xe s
def Wss (st : List Stmt) (D : Ends) (σ : L2.St) (H : Hp) : Prop := ∀ (pins : List (Addr × Obj)) (s : Shared), Inv X pins σ H s → wpAny (model X.prog X.w) X.A (execs st X.env) (SP X pins D) X.xe s
end
section
variable {X : Cx} {e a b : Expr} {es : List Expr} {t : TE} {σ : L2.St} {H : Hp} {Q : VK} {A : List C} {pos p : Pos}
theorem wx_pe : PE X e (Wx X e) := ⟨fun pins s σ H Q I h => h pins s I⟩
theorem wx_of (h : PE X e t) (q : t σ H Q) : Wx X e σ H Q := fun pins s I => h.run pins s σ H Q I q
theorem wt_pe : PT X e (Wt X e) := ⟨fun pins s σ H Q I h => h pins s I⟩
theorem wt_of {t : TT} {Q : Bool → Hp → Prop} (h : PT X e t) (q : t σ H Q) : Wt X e σ H Q := fun pins s I => h.run pins s σ H Q I q
theorem ww_pw : PW X e (Ww X e) := ⟨fun whole pins s σ H Q I h => h whole pins s I⟩
theorem ww_of {t : TT} {Q : Bool → Hp → Prop} (h : PW X e t) (q : t σ H Q) : Ww X e σ H Q := fun whole pins s I => h.run whole pins s σ H Q I q
theorem wa_pa : PA X es (Wa X es) := ⟨fun pos pins s σ H Q I h => h pos pins s I⟩
theorem wa_of {t : TA} {Q : List V → Hp → Prop} (h : PA X es t) (q : t σ H Q) : Wa X es σ H Q := fun pos pins s I => h.run pos pins s σ H Q I q
theorem ws_ps {st : Stmt} : PS X st (Ws X st) := ⟨fun pins s σ H D I h => h pins s I⟩
theorem ws_of {st : Stmt} {t : TS} {D : Ends} (h : PS X st t) (q : t D σ H) : Ws X st D σ H := fun pins s I => h.run pins s σ H D I q
theorem wss_pss {st : List Stmt} : PSs X st (Wss X st) := ⟨fun pins s σ H D I h => h pins s I⟩
theorem wss_of {st : List Stmt} {t : TS} {D : Ends} (h : PSs X st t) (q : t D σ H) : Wss X st D σ H := fun pins s I => h.run pins s σ H D I q

variable (X)
/-- the expression evaluates to c -/
def Ev (A : List C) (e : Expr) (c : C) : Prop := ∀ I0 H0 σ I H, Rel X.K I0 H0 A σ I H → ∀ Q : VK, (∀ v I' H', Grow I H I' H' → VR X.K H I' H' v c → Q v H') → Wx X e σ H Q
/-- .. to a list (true), a tuple (false), that is read only -/
def EvS (A : List C) (e : Expr) (k : Bool) (ds : List PyData) : Prop := ∀ I0 H0 σ I H, Rel X.K I0 H0 A σ I H → ∀ Q : VK,
  (∀ p vs I' H', Grow I H I' H' → (if k then SqL X.K H' p vs else SqT X.K H' p vs) → DpAll X.K I' vs ds → Q (.ref p) H') → Wx X e σ H Q
def EvA (A : List C) (es : List Expr) (ds : List PyData) : Prop := ∀ I0 H0 σ I H, Rel X.K I0 H0 A σ I H → ∀ Q : List V → Hp → Prop, (∀ vs I' H', Grow I H I' H' → DpAll X.K I' vs ds → Q vs H') → Wa X es σ H Q
def Et (A : List C) (e : Expr) (b : Bool) : Prop := ∀ I0 H0 σ I H, Rel X.K I0 H0 A σ I H → ∀ Q : Bool → Hp → Prop, (∀ I' H', Grow I H I' H' → Q b H') → Wt X e σ H Q
def Ew (A : List C) (e : Expr) (b : Bool) : Prop := ∀ I0 H0 σ I H, Rel X.K I0 H0 A σ I H → ∀ Q : Bool → Hp → Prop, (∀ I' H', Grow I H I' H' → Q b H') → Ww X e σ H Q
variable {X}

theorem ev_int {i : Int} {j} : Ev X A (.Constant (.int i) j pos) (.dat (.int i)) := fun _ _ _ I H r Q q => wx_of pe_int (q _ I H (.refl r.ih) (Dp.int i))
theorem ev_bl {i : Bool} {j} : Ev X A (.Constant (.bool i) j pos) (.dat (.bool i)) := fun _ _ _ I H r Q q => wx_of pe_bl (q _ I H (.refl r.ih) (Dp.bl i))
theorem ev_str {i : Str} {j} : Ev X A (.Constant (.str i) j pos) (.dat (.str i)) := fun _ _ _ I H r Q q => wx_of pe_str (q _ I H (.refl r.ih) (Dp.str i))
theorem ev_non {j} : Ev X A (.Constant .none j pos) (.dat .none) := fun _ _ _ I H r Q q => wx_of pe_non (q _ I H (.refl r.ih) Dp.non)
theorem ev_name (i : Nat) {x : Str} {d : PyData} (hN : X.N[i]? = some x) (hA : A[i]? = some (.dat d)) (hv : Vis X.env.scope x) (hd : (x == ("__debug__" : Str)) = false := by decide)
    (hcd : (x == ("__classdict__" : Str)) = false := by decide) : Ev X A (.Name x pos) (.dat d) := fun _ _ σ I H r Q q => by
  obtain ⟨v, e, hd'⟩ := r.cell i _ hA
  exact wx_of (pe_var hN hv hd hcd) ⟨v, e, q v I H (.refl r.ih) hd'⟩
/-- a fresh list as data -/
theorem ev_frz {ds : List PyData} (h : Ev X A e (.own (.lst ds))) : Ev X A e (.dat (.list ds)) := fun I0 H0 σ I H r Q q =>
  h I0 H0 σ I H r Q fun v I' H' g hv => by
    obtain ⟨p, o, rfl, n, n', h', hb⟩ := hv
    obtain ⟨vs, rfl, ha⟩ := obAt_lst hb
    have g2 := g.know (o := .lst vs) n n' h'
    have s2 : Same I' (upd I' p (.lst vs)) := fun b u z => by rw [upd_ne (ne_of_none z n')]; exact z
    exact q _ _ _ g2 (.lst (.inl (.inl upd_same)) (dpAll_mono s2 ha))
theorem ev_eq {c c' : C} (h : Ev X A e c) (hc : c = c') : Ev X A e c' := hc ▸ h
/-! read lists and tuples -/
theorem evs_own (i : Nat) {x : Str} {ds : List PyData} (hN : X.N[i]? = some x) (hA : A[i]? = some (.own (.lst ds))) (hv : Vis X.env.scope x) (hd : (x == ("__debug__" : Str)) = false := by decide)
    (hcd : (x == ("__classdict__" : Str)) = false := by decide) : EvS X A (.Name x pos) true ds := fun _ _ σ I H r Q q => by
  obtain ⟨p, o, e, _, _, ho, hb⟩ := r.cell i _ hA
  obtain ⟨vs, rfl, ha⟩ := obAt_lst hb
  exact wx_of (pe_var hN hv hd hcd) ⟨.ref p, e, q p vs I H (.refl r.ih) (.inl (.inl ho)) ha⟩
theorem evs_new {ds : List PyData} (h : Ev X A e (.own (.lst ds))) : EvS X A e true ds := fun I0 H0 σ I H r Q q =>
  h I0 H0 σ I H r Q fun v I' H' g hv => by
    obtain ⟨p, o, rfl, _, _, h', hb⟩ := hv
    obtain ⟨vs, rfl, ha⟩ := obAt_lst hb
    exact q p vs I' H' g (.inl (.inl h')) ha
theorem evs_lst {ds : List PyData} (h : Ev X A e (.dat (.list ds))) : EvS X A e true ds := fun I0 H0 σ I H r Q q =>
  h I0 H0 σ I H r Q fun v I' H' g hv => by
    obtain ⟨p, vs, rfl, hs, ha⟩ := dp_lst hv
    exact q p vs I' H' g (same_l g.ih hs) ha
theorem evs_tup {ds : List PyData} (h : Ev X A e (.dat (.tuple ds))) : EvS X A e false ds := fun I0 H0 σ I H r Q q =>
  h I0 H0 σ I H r Q fun v I' H' g hv => by
    obtain ⟨p, vs, rfl, hs, ha⟩ := dp_tup hv
    exact q p vs I' H' g (same_t g.ih hs) ha
/-! arguments -/
theorem ea_nil : EvA X A [] [] := fun _ _ _ I H r Q q => wa_of pa_nil (q [] I H (.refl r.ih) .nil)
theorem ea_cons {d : PyData} {ds : List PyData} (h1 : Ev X A e (.dat d)) (h2 : EvA X A es ds) (hs : starEach (e :: es) X.env = (false, eval e X.env) :: starEach es X.env := by rfl) : EvA X A (e :: es) (d :: ds) := fun I0 H0 σ I H r Q q =>
  wa_of (pa_cons wx_pe wa_pa hs) (h1 I0 H0 σ I H r _ fun v I1 H1 g1 hv => h2 I0 H0 σ I1 H1 (r.grow g1) _ fun vs I2 H2 g2 hvs => q _ I2 H2 (g1.trans g2) (.cons (dp_mono g2.ii hv) hvs))
/-! operators -/
/-- what an operation on two data gives -/
def Bin (X : Cx) (r : R2) (d1 d2 : PyData) (c : C) : Prop := ∀ I H v w, Same I H → Dp X.K I v d1 → Dp X.K I w d2 → ∀ Q : VK, (∀ u I' H', Grow I H I' H' → VR X.K H I' H' u c → Q u H') → r v w H Q
def Una (X : Cx) (r : V → Hp → VK → Prop) (d1 : PyData) (c : C) : Prop := ∀ I H v, Same I H → Dp X.K I v d1 → ∀ Q : VK, (∀ u I' H', Grow I H I' H' → VR X.K H I' H' u c → Q u H') → r v H Q
theorem bin_run {ta tb : Expr} {r : R2} {d1 d2 : PyData} {c : C} (h1 : Ev X A ta (.dat d1)) (h2 : Ev X A tb (.dat d2)) (hr : Bin X r d1 d2 c) {I0 H0 : Hp} {I : Hp} (rl : Rel X.K I0 H0 A σ I H) (q : ∀ v I' H', Grow I H I' H' → VR X.K H I' H' v c → Q v H') :
    tOp r (Wx X ta) (Wx X tb) σ H Q :=
  h1 I0 H0 σ I H rl _ fun v I1 H1 g1 hv => h2 I0 H0 σ I1 H1 (rl.grow g1) _ fun w I2 H2 g2 hw => hr I2 H2 v w g2.ih (dp_mono g2.ii hv) hw Q fun u I3 H3 g3 hu =>
    q u I3 H3 ((g1.trans g2).trans g3) (hu.back (g1.trans g2).hh)
theorem ev_op {op : Operator} {r : R2} {d1 d2 : PyData} {c : C} (ho : OpR X (binaryOp op) r) (h1 : Ev X A a (.dat d1)) (h2 : Ev X A b (.dat d2)) (hr : Bin X r d1 d2 c) : Ev X A (.BinOp a op b pos) c :=
  fun _ _ _ _ _ rl _ q => wx_of (pe_op ho wx_pe wx_pe) (bin_run h1 h2 hr rl q)
theorem ev_cmp {op : CmpOp} {r : R2} {d1 d2 : PyData} {c : C} (ho : OpR X (compareOp op) r) (h1 : Ev X A a (.dat d1)) (h2 : Ev X A b (.dat d2)) (hr : Bin X r d1 d2 c) (hm : behindInMarks op b = false) : Ev X A (.Compare a [op] [b] pos) c :=
  fun _ _ _ _ _ rl _ q => wx_of (pe_cmpR ho wx_pe wx_pe hm) (bin_run h1 h2 hr rl q)
theorem ev_un {op : UnaryOp} {r : V → Hp → VK → Prop} {d1 : PyData} {c : C} (ho : UnR X (unaryOp op) r) (h1 : Ev X A a (.dat d1)) (hr : Una X r d1 c) : Ev X A (.UnaryOp op a pos) c :=
  fun I0 H0 σ I H rl Q q => wx_of (pe_un ho wx_pe) (h1 I0 H0 σ I H rl _ fun v I1 H1 g1 hv => hr I1 H1 v g1.ih hv Q fun u I2 H2 g2 hu => q u I2 H2 (g1.trans g2) (hu.back g1.hh))
theorem ev_ix {r : R2} {d1 d2 : PyData} {c : C} (ho : IxR X r) (h1 : Ev X A a (.dat d1)) (h2 : Ev X A b (.dat d2)) (hr : Bin X r d1 d2 c) (hs : PlainIx b) : Ev X A (.Subscript a b pos) c :=
  fun _ _ _ _ _ rl _ q => wx_of (pe_ix ho wx_pe wx_pe hs) (bin_run h1 h2 hr rl q)
/-- the results that are plain -/
theorem bin_val {r : R2} {d1 d2 d : PyData} (h : ∀ I H v w, Same I H → Dp X.K I v d1 → Dp X.K I w d2 → ∀ Q : VK, (∀ u, Dp X.K I u d → Q u H) → r v w H Q) : Bin X r d1 d2 (.dat d) :=
  fun I H v w s h1 h2 Q q => h I H v w s h1 h2 Q fun u hu => q u I H (.refl s) hu
theorem bI0 {g : Int → Int → V} {i j : Int} {d : PyData} (hg : ∀ I, Dp X.K I (g i j) d) : Bin X (rI0 g) (.int i) (.int j) (.dat d) := bin_val fun I H v w s h1 h2 Q q => ⟨i, j, dp_int h1, dp_int h2, q _ (hg I)⟩
theorem bI {R : Int → Int → Prop} {g : Int → Int → V} {i j : Int} {d : PyData} (hc : R i j) (hg : ∀ I, Dp X.K I (g i j) d) : Bin X (rI R g) (.int i) (.int j) (.dat d) := bin_val fun I H v w s h1 h2 Q q => ⟨i, j, dp_int h1, dp_int h2, hc, q _ (hg I)⟩
theorem ev_add {i j : Int} (h1 : Ev X A a (.dat (.int i))) (h2 : Ev X A b (.dat (.int j))) : Ev X A (.BinOp a .Add b pos) (.dat (.int (i + j))) := ev_op op_add h1 h2 (bI0 fun _ => .int _)
theorem ev_sub {i j : Int} (h1 : Ev X A a (.dat (.int i))) (h2 : Ev X A b (.dat (.int j))) : Ev X A (.BinOp a .Sub b pos) (.dat (.int (i - j))) := ev_op op_sub h1 h2 (bI0 fun _ => .int _)
theorem ev_mul {i j : Int} (h1 : Ev X A a (.dat (.int i))) (h2 : Ev X A b (.dat (.int j))) (hc : CMul i j) : Ev X A (.BinOp a .Mult b pos) (.dat (.int (i * j))) := ev_op op_mul h1 h2 (bI hc fun _ => .int _)
theorem ev_mod {i j : Int} (h1 : Ev X A a (.dat (.int i))) (h2 : Ev X A b (.dat (.int j))) (hc : 0 < j) : Ev X A (.BinOp a .Mod b pos) (.dat (.int (i % j))) := ev_op op_modN h1 h2 (bI (Int.ne_of_gt hc) fun _ => by
  rw [Int.fmod_eq_emod_of_nonneg _ (Int.le_of_lt hc)]; exact .int _)
theorem ev_div {i j : Int} (h1 : Ev X A a (.dat (.int i))) (h2 : Ev X A b (.dat (.int j))) (hc : 0 < j) (hb : j < 1073741824) : Ev X A (.BinOp a .FloorDiv b pos) (.dat (.int (i / j))) := ev_op op_fdivN h1 h2 (bI ⟨Int.ne_of_gt hc, by omega⟩ fun _ => by
  rw [Int.fdiv_eq_ediv_of_nonneg _ (Int.le_of_lt hc)]; exact .int _)
theorem ev_pow {i j : Int} (h1 : Ev X A a (.dat (.int i))) (h2 : Ev X A b (.dat (.int j))) (hc : CPow i j) : Ev X A (.BinOp a .Pow b pos) (.dat (.int (i ^ j.toNat))) := ev_op op_pow h1 h2 (bI hc fun _ => .int _)
theorem ev_neg {i : Int} (h1 : Ev X A a (.dat (.int i))) : Ev X A (.UnaryOp .USub a pos) (.dat (.int (-i))) := ev_un un_neg h1 fun I H v s h Q q => ⟨i, dp_int h, q _ I H (.refl s) (Dp.int _)⟩
theorem ev_lt {i j : Int} (h1 : Ev X A a (.dat (.int i))) (h2 : Ev X A b (.dat (.int j))) : Ev X A (.Compare a [.Lt] [b] pos) (.dat (.bool (decide (i < j)))) := ev_cmp op_lt h1 h2 (bI0 fun _ => .bl _) (nomark _)
theorem ev_le {i j : Int} (h1 : Ev X A a (.dat (.int i))) (h2 : Ev X A b (.dat (.int j))) : Ev X A (.Compare a [.LtE] [b] pos) (.dat (.bool (decide (i ≤ j)))) := ev_cmp op_le h1 h2 (bI0 fun _ => .bl _) (nomark _)
theorem ev_gt {i j : Int} (h1 : Ev X A a (.dat (.int i))) (h2 : Ev X A b (.dat (.int j))) : Ev X A (.Compare a [.Gt] [b] pos) (.dat (.bool (decide (j < i)))) := ev_cmp op_gt h1 h2 (bI0 fun _ => .bl _) (nomark _)
theorem ev_ge {i j : Int} (h1 : Ev X A a (.dat (.int i))) (h2 : Ev X A b (.dat (.int j))) : Ev X A (.Compare a [.GtE] [b] pos) (.dat (.bool (decide (j ≤ i)))) := ev_cmp op_ge h1 h2 (bI0 fun _ => .bl _) (nomark _)
theorem decV {i j : Int} : decide (V.int i = V.int j) = decide (i = j) := decide_eq_decide.mpr ⟨V.int.inj, fun h => h ▸ rfl⟩
theorem decS {i j : Str} : decide (V.str i = V.str j) = decide (i = j) := decide_eq_decide.mpr ⟨V.str.inj, fun h => h ▸ rfl⟩
theorem ev_eqI {i j : Int} (h1 : Ev X A a (.dat (.int i))) (h2 : Ev X A b (.dat (.int j))) : Ev X A (.Compare a [.Eq] [b] pos) (.dat (.bool (decide (i = j)))) := ev_cmp op_eq h1 h2 (bin_val fun I H v w s h1 h2 Q q => by
  rw [dp_int h1, dp_int h2]; exact ⟨rfl, by rw [decV]; exact q _ (.bl _)⟩) (nomark _)
theorem ev_neI {i j : Int} (h1 : Ev X A a (.dat (.int i))) (h2 : Ev X A b (.dat (.int j))) : Ev X A (.Compare a [.NotEq] [b] pos) (.dat (.bool (!decide (i = j)))) := ev_cmp op_ne h1 h2 (bin_val fun I H v w s h1 h2 Q q => by
  rw [dp_int h1, dp_int h2]; exact ⟨rfl, by rw [decV]; exact q _ (.bl _)⟩) (nomark _)
theorem ev_eqS {i j : Str} (h1 : Ev X A a (.dat (.str i))) (h2 : Ev X A b (.dat (.str j))) : Ev X A (.Compare a [.Eq] [b] pos) (.dat (.bool (decide (i = j)))) := ev_cmp op_eq h1 h2 (bin_val fun I H v w s h1 h2 Q q => by
  rw [dp_str h1, dp_str h2]; exact ⟨rfl, by rw [decS]; exact q _ (.bl _)⟩) (nomark _)
theorem ev_neS {i j : Str} (h1 : Ev X A a (.dat (.str i))) (h2 : Ev X A b (.dat (.str j))) : Ev X A (.Compare a [.NotEq] [b] pos) (.dat (.bool (!decide (i = j)))) := ev_cmp op_ne h1 h2 (bin_val fun I H v w s h1 h2 Q q => by
  rw [dp_str h1, dp_str h2]; exact ⟨rfl, by rw [decS]; exact q _ (.bl _)⟩) (nomark _)
theorem ev_eqD {d1 d2 : PyData} {k : Nat} (hr : Room k X.A) (h1 : Ev X A a (.dat d1)) (h2 : Ev X A b (.dat d2)) (s1 : SeqAt.shaped d1 = true) (s2 : SeqAt.shaped d2 = true) : Ev X A (.Compare a [.Eq] [b] pos) (.dat (.bool (PyData.eqv d1 d2))) :=
  ev_cmp (op_eqD hr.units) h1 h2 (bin_val fun I H v w s h1 h2 Q q => ⟨d1, d2, (dp_mono s h1).kit s1, (dp_mono s h2).kit s2, s1, s2, q _ (.bl _)⟩) (nomark _)
theorem ev_neD {d1 d2 : PyData} {k : Nat} (hr : Room k X.A) (h1 : Ev X A a (.dat d1)) (h2 : Ev X A b (.dat d2)) (s1 : SeqAt.shaped d1 = true) (s2 : SeqAt.shaped d2 = true) : Ev X A (.Compare a [.NotEq] [b] pos) (.dat (.bool (!PyData.eqv d1 d2))) :=
  ev_cmp (op_neD hr.units) h1 h2 (bin_val fun I H v w s h1 h2 Q q => ⟨d1, d2, (dp_mono s h1).kit s1, (dp_mono s h2).kit s2, s1, s2, q _ (.bl _)⟩) (nomark _)
theorem ev_isN {d : PyData} (h1 : Ev X A a (.dat d)) : Ev X A (.Compare a [.Is] [.Constant .none j p] pos) (.dat (.bool (match d with | .none => true | _ => false))) :=
  fun I0 H0 σ I H rl Q q => wx_of (pe_cmp (pc_isN wx_pe) rfl) (h1 I0 H0 σ I H rl _ fun v I1 H1 g1 hv => q _ I1 H1 g1 (by
    have hv : Dp X.K I1 v d := hv
    cases hv <;> exact Dp.bl _))
theorem ev_notN {d : PyData} (h1 : Ev X A a (.dat d)) : Ev X A (.Compare a [.IsNot] [.Constant .none j p] pos) (.dat (.bool (match d with | .none => false | _ => true))) :=
  fun I0 H0 σ I H rl Q q => wx_of (pe_cmp (pc_notN wx_pe) rfl) (h1 I0 H0 σ I H rl _ fun v I1 H1 g1 hv => q _ I1 H1 g1 (by
    have hv : Dp X.K I1 v d := hv
    cases hv <;> exact Dp.bl _))
end
end LR

set_option Elab.async false
set_option linter.all false
set_option maxRecDepth 100000
set_option maxHeartbeats 4000000
/-! The layer LR, part b: sequences, calls, tests, comprehensions. -/
namespace LR
open PySem PySem.Spec PyProof.Rows L2

theorem atI_dp {K : PySem.W.Frag} {H : Hp} {vs : List V} {ds : List PyData} (h : DpAll K H vs ds) {i : Int} {d : PyData} (e : atI ds i = some d) : ∃ v, atI vs i = some v ∧ Dp K H v d := by
  unfold atI at e ⊢
  rw [dpAll_len h]
  cases q : ixN ds.length i with
  | none => rw [q] at e; cases e
  | some j => rw [q] at e; exact dpAll_get h (i := j) e
/-- xs[lo:hi] -/
def cut {α : Type} (xs : List α) (lo hi : Option Int) : List α := (xs.drop (HT.sIx xs.length 0 lo)).take (HT.sIx xs.length xs.length hi - HT.sIx xs.length 0 lo)
theorem dpAll_cut {K : PySem.W.Frag} {H : Hp} {vs : List V} {ds : List PyData} (h : DpAll K H vs ds) (lo hi : Option Int) : DpAll K H (cutV vs lo hi) (cut ds lo hi) := by
  unfold cutV cut
  rw [dpAll_len h]
  exact dpAll_take _ (dpAll_drop _ h)
theorem cut_map {α β : Type} (f : α → β) (xs : List α) (lo hi : Option Int) : cut (xs.map f) lo hi = (cut xs lo hi).map f := by
  unfold cut
  rw [List.length_map, List.map_take, List.map_drop]
theorem cut_to {α : Type} (xs : List α) (k : Nat) : cut xs none (some (k : Int)) = xs.take k := by
  unfold cut
  rw [HT.sIx_none, HT.sIx_nat, List.drop_zero, Nat.sub_zero]
  by_cases h : k ≤ xs.length
  · rw [Nat.min_eq_left h]
  · rw [Nat.min_eq_right (by omega), List.take_of_length_le (Nat.le_refl _), List.take_of_length_le (by omega)]
theorem cut_from {α : Type} (xs : List α) (k : Nat) : cut xs (some (k : Int)) none = xs.drop k := by
  unfold cut
  rw [HT.sIx_none, HT.sIx_nat]
  by_cases h : k ≤ xs.length
  · rw [Nat.min_eq_left h, List.take_of_length_le (by rw [List.length_drop]; omega)]
  · rw [Nat.min_eq_right (by omega), List.drop_of_length_le (Nat.le_refl _), List.drop_of_length_le (by omega)]
    simp
theorem cut_mid {α : Type} (xs : List α) (j k : Nat) (hk : k ≤ xs.length) (hj : j ≤ k) : cut xs (some (j : Int)) (some (k : Int)) = (xs.drop j).take (k - j) := by
  unfold cut
  rw [HT.sIx_nat, HT.sIx_nat, Nat.min_eq_left (show j ≤ xs.length by omega), Nat.min_eq_left hk]
theorem cut_len {α : Type} (xs : List α) (lo hi : Option Int) : (cut xs lo hi).length ≤ xs.length := by
  unfold cut
  rw [List.length_take, List.length_drop]
  omega

section
variable {X : Cx} {e a b : Expr} {es : List Expr} {σ : L2.St} {H : Hp} {Q : VK} {A : List C} {pos p p2 : Pos} {x : Str}

theorem sqk {K : PySem.W.Frag} {H : Hp} {p : Addr} {vs : List V} {k : Bool} (h : if k then SqL K H p vs else SqT K H p vs) : SqL K H p vs ∨ SqT K H p vs := by
  cases k with
  | true => exact .inl h
  | false => exact .inr h
/-- an item, i of any sign -/
theorem ev_at {k : Bool} {ds : List PyData} {i : Int} {d : PyData} (h1 : EvS X A a k ds) (h2 : Ev X A b (.dat (.int i))) (hd : atI ds i = some d) (hs : PlainIx b) : Ev X A (.Subscript a b pos) (.dat d) := fun I0 H0 σ I H rl Q q =>
  wx_of (pe_ix (ix_list.or ix_tup) wx_pe wx_pe hs) (h1 I0 H0 σ I H rl _ fun p vs I1 H1 g1 hk ha => h2 I0 H0 σ I1 H1 (rl.grow g1) _ fun w I2 H2 g2 hw => by
    obtain ⟨v, e1, e2⟩ := atI_dp ha hd
    have hw' : Dp X.K I2 w (.int i) := hw
    have fin := q v I2 H2 (g1.trans g2) (dp_mono g2.ii e2)
    cases k with
    | true => exact .inl ⟨p, vs, i, v, rfl, dp_int hw', same_l g2.hh hk, e1, fin⟩
    | false => exact .inr ⟨p, vs, i, v, rfl, dp_int hw', same_t g2.hh hk, e1, fin⟩)
theorem ev_atS {z : Str} {i : Int} {c : Nat} (h1 : Ev X A a (.dat (.str z))) (h2 : Ev X A b (.dat (.int i))) (hz : z.length ≤ sizeLine) (hd : atI z.cps.toList i = some c) (hs : PlainIx b) : Ev X A (.Subscript a b pos) (.dat (.str ⟨#[c]⟩)) :=
  ev_ix ix_str h1 h2 (bin_val fun I H v w s h1 h2 Q q => ⟨z, i, c, dp_str h1, dp_int h2, hz, hd, q _ (.str _)⟩) hs
/-! displays -/
theorem ev_tup {ds : List PyData} {x1} (h : EvA X A es ds) (hz : ds.length ≤ sizeLine := by decide) : Ev X A (.Tuple es x1 pos) (.dat (.tuple ds)) := fun I0 H0 σ I H rl Q q =>
  wx_of (pe_tup wa_pa) (h I0 H0 σ I H rl _ fun vs I1 H1 g ha => ⟨by rw [dpAll_len ha]; exact hz, fun p hp => by
    have g2 := Grow.new (o := .tup vs) g.ih hp
    exact q _ _ _ (g.trans g2) (.tup upd_same (dpAll_mono g2.ii ha))⟩)
theorem ev_lst {ds : List PyData} (h : EvA X A es ds) (hz : ds.length ≤ sizeLine := by decide) : Ev X A (.List es pos) (.own (.lst ds)) := fun I0 H0 σ I H rl Q q =>
  wx_of (pe_lst wa_pa) (h I0 H0 σ I H rl _ fun vs I1 H1 g ha => ⟨by rw [dpAll_len ha]; exact hz, fun p hp => by
    have g2 := Grow.newH (o := .lst vs) g.ih hp
    exact q _ _ _ (g.trans g2) ⟨p, .lst vs, rfl, g.hh.free hp, g.ih.free hp, upd_same, ha⟩⟩)
/-! t + u, xs + ys -/
theorem ev_catT {ds es : List PyData} (h1 : Ev X A a (.dat (.tuple ds))) (h2 : Ev X A b (.dat (.tuple es))) (hz : ds.length + es.length ≤ sizeLine) : Ev X A (.BinOp a .Add b pos) (.dat (.tuple (ds ++ es))) :=
  ev_op op_catA h1 h2 fun I H v w s h1 h2 Q q => by
    obtain ⟨p, xs, rfl, hx, ha⟩ := dp_tup h1
    obtain ⟨p2, ys, rfl, hy, hb⟩ := dp_tup h2
    have l1 := dpAll_len ha
    have l2 := dpAll_len hb
    refine ⟨p, p2, xs, ys, rfl, rfl, same_t s hx, same_t s hy, by rw [l1, l2]; exact hz, fun e0 => ?_, fun e0 e1 => ?_, fun e0 e1 l hl => ?_⟩
    · subst e0
      cases ha
      exact q _ I H (.refl s) h2
    · subst e1
      cases hb
      exact q _ I H (.refl s) (by rw [List.append_nil]; exact h1)
    · have g2 := Grow.new (o := .tup (xs ++ ys)) s hl
      exact q _ _ _ g2 (.tup upd_same (dpAll_mono g2.ii (dpAll_append ha hb)))
/-- what may be tracked of a list that is read -/
def EvL (X : Cx) (A : List C) (e : Expr) (ds : List PyData) : Prop := ∀ I0 H0 σ I H, Rel X.K I0 H0 A σ I H → ∀ Q : VK,
  (∀ p vs I' H', Grow I H I' H' → H' p = some (.lst vs) → DpAll X.K I' vs ds → Q (.ref p) H') → Wx X e σ H Q
theorem evl_own (i : Nat) {x : Str} {ds : List PyData} (hN : X.N[i]? = some x) (hA : A[i]? = some (.own (.lst ds))) (hv : Vis X.env.scope x) (hd : (x == ("__debug__" : Str)) = false := by decide)
    (hcd : (x == ("__classdict__" : Str)) = false := by decide) : EvL X A (.Name x pos) ds := fun _ _ σ I H r Q q => by
  obtain ⟨p, o, e, _, _, ho, hb⟩ := r.cell i _ hA
  obtain ⟨vs, rfl, ha⟩ := obAt_lst hb
  exact wx_of (pe_var hN hv hd hcd) ⟨.ref p, e, q p vs I H (.refl r.ih) ho ha⟩
theorem evl_new {ds : List PyData} (h : Ev X A e (.own (.lst ds))) : EvL X A e ds := fun I0 H0 σ I H r Q q =>
  h I0 H0 σ I H r Q fun v I' H' g hv => by
    obtain ⟨p, o, rfl, _, _, h', hb⟩ := hv
    obtain ⟨vs, rfl, ha⟩ := obAt_lst hb
    exact q p vs I' H' g h' ha
theorem ev_catL {ds es : List PyData} (h1 : EvL X A a ds) (h2 : EvL X A b es) (hz : ds.length + es.length ≤ sizeLine) : Ev X A (.BinOp a .Add b pos) (.own (.lst (ds ++ es))) := fun I0 H0 σ I H rl Q q =>
  wx_of (pe_op op_cat wx_pe wx_pe) (h1 I0 H0 σ I H rl _ fun p xs I1 H1 g1 hp ha => h2 I0 H0 σ I1 H1 (rl.grow g1) _ fun p2 ys I2 H2 g2 hp2 hb =>
    ⟨p, p2, xs, ys, rfl, rfl, g2.hh _ _ hp, hp2, by rw [dpAll_len ha, dpAll_len hb]; exact hz, fun l hl => by
      have g3 := Grow.newH (o := .lst (xs ++ ys)) g2.ih hl
      exact q _ _ _ ((g1.trans g2).trans g3) ⟨l, _, rfl, (g1.trans g2).hh.free hl, g2.ih.free hl, upd_same, dpAll_append (dpAll_mono g2.ii ha) hb⟩⟩)
theorem dpAll_rep {K : PySem.W.Frag} {H : Hp} {vs : List V} {ds : List PyData} (h : DpAll K H vs ds) : ∀ n : Nat, DpAll K H (List.replicate n vs).flatten (List.replicate n ds).flatten
  | 0 => .nil
  | n + 1 => by
    rw [List.replicate_succ, List.replicate_succ, List.flatten_cons, List.flatten_cons]
    exact dpAll_append h (dpAll_rep h n)
/-! slices -/
def EvO (X : Cx) (A : List C) (e : Option Expr) (o : Option Int) : Prop := match e, o with
  | none, none => True
  | some e, some i => Ev X A e (.dat (.int i))
  | _, _ => False
theorem evo_none : EvO X A none none := True.intro
theorem evo_some {i : Int} (h : Ev X A e (.dat (.int i))) : EvO X A (some e) (some i) := h
def Wo (X : Cx) (e : Option Expr) (σ : L2.St) (H : Hp) (Q : Option Int → Hp → Prop) : Prop := match e with
  | none => Q none H
  | some e => Wx X e σ H fun x H1 => ∃ i, x = .int i ∧ Q (some i) H1
theorem wo_po {e : Option Expr} : PO X e (Wo X e) := by
  cases e with
  | none => exact po_none
  | some e => exact po_some wx_pe
theorem evo_run {e : Option Expr} {o : Option Int} (h : EvO X A e o) {I0 H0 I : Hp} (rl : Rel X.K I0 H0 A σ I H) {Q : Option Int → Hp → Prop} (q : ∀ I' H', Grow I H I' H' → Q o H') : Wo X e σ H Q := by
  cases e with
  | none => cases o with
    | none => exact q I H (.refl rl.ih)
    | some i => exact h.elim
  | some e => cases o with
    | none => exact h.elim
    | some i => exact h I0 H0 σ I H rl _ fun v I1 H1 g hv => ⟨i, dp_int hv, q I1 H1 g⟩
theorem ev_slL {lo hi : Option Expr} {l u : Option Int} {ds : List PyData} (h : EvS X A e true ds) (hl : EvO X A lo l) (hu : EvO X A hi u) : Ev X A (.Subscript e (.Slice lo hi none p2) pos) (.own (.lst (cut ds l u))) := fun I0 H0 σ I H rl Q q =>
  wx_of (pe_slice sl_list wx_pe wo_po wo_po) (h I0 H0 σ I H rl _ fun p vs I1 H1 g1 hk ha => evo_run hl (rl.grow g1) fun I2 H2 g2 => evo_run hu ((rl.grow g1).grow g2) fun I3 H3 g3 =>
    ⟨p, vs, rfl, same_l (g2.trans g3).hh hk, fun r hr => by
      have g := (g1.trans g2).trans g3
      have g4 := Grow.newH (o := .lst (cutV vs l u)) g3.ih hr
      exact q _ _ _ (g.trans g4) ⟨r, _, rfl, g.hh.free hr, g3.ih.free hr, upd_same, dpAll_mono (g2.trans g3).ii (dpAll_cut ha l u)⟩⟩)
theorem ev_slT {lo hi : Option Expr} {l u : Option Int} {ds : List PyData} (h : Ev X A e (.dat (.tuple ds))) (hl : EvO X A lo l) (hu : EvO X A hi u) : Ev X A (.Subscript e (.Slice lo hi none p2) pos) (.dat (.tuple (cut ds l u))) := fun I0 H0 σ I H rl Q q =>
  wx_of (pe_slice sl_tupA wx_pe wo_po wo_po) (h I0 H0 σ I H rl _ fun v I1 H1 g1 hv => evo_run hl (rl.grow g1) fun I2 H2 g2 => evo_run hu ((rl.grow g1).grow g2) fun I3 H3 g3 => by
    have hv := dp_mono (g2.trans g3).ii (show Dp X.K I1 v (.tuple ds) from hv)
    obtain ⟨p, vs, rfl, hk, ha⟩ := dp_tup hv
    have g := (g1.trans g2).trans g3
    refine ⟨p, vs, rfl, same_t g3.ih hk, fun ⟨e1, e2⟩ => ?_, fun _ r hr => ?_⟩
    · refine q _ _ _ g ?_
      have e3 : cut ds l u = ds := by
        unfold cut
        rw [← dpAll_len ha, e1, e2, List.drop_zero, Nat.sub_zero, dpAll_len ha, List.take_length]
      rw [e3]
      exact hv
    · have g4 := Grow.new (o := .tup (cutV vs l u)) g3.ih hr
      exact q _ _ _ (g.trans g4) (.tup upd_same (dpAll_mono g4.ii (dpAll_cut ha l u))))
/-! built-ins -/
theorem ev_len {k : Bool} {ds : List PyData} (hg : Gl X "len") (hm : X.mg "len" = none) (h : EvS X A e k ds) (hs : starEach (e :: []) X.env = (false, eval e X.env) :: starEach [] X.env := by rfl) : Ev X A (.Call (.Name "len" p) [e] [] pos) (.dat (.int ds.length)) := fun I0 H0 σ I H rl Q q =>
  wx_of (pe_callB call_len_seq hg hm PySem.boot_len (pa_cons wx_pe pa_nil hs) (by decide) (by decide) hs rfl) (h I0 H0 σ I H rl _ fun p vs I1 H1 g hk ha => ⟨p, vs, rfl, sqk hk, q _ I1 H1 g (by rw [← dpAll_len ha]; exact Dp.int _)⟩)
theorem ev_lenS {z : Str} (hg : Gl X "len") (hm : X.mg "len" = none) (h : Ev X A e (.dat (.str z))) (hz : z.length ≤ sizeLine) (hs : starEach (e :: []) X.env = (false, eval e X.env) :: starEach [] X.env := by rfl) : Ev X A (.Call (.Name "len" p) [e] [] pos) (.dat (.int z.length)) := fun I0 H0 σ I H rl Q q =>
  wx_of (pe_callB call_len_str hg hm PySem.boot_len (pa_cons wx_pe pa_nil hs) (by decide) (by decide) hs rfl) (h I0 H0 σ I H rl _ fun v I1 H1 g hv => ⟨z, by rw [dp_str hv], hz, q _ I1 H1 g (Dp.int _)⟩)
theorem ev_tuple {ds : List PyData} (hg : Gl X "tuple") (hm : X.mg "tuple" = none) (h : EvS X A e true ds) (hb : bootBuiltins "tuple" = some (.type "tuple") := by decide +kernel) (hs : starEach (e :: []) X.env = (false, eval e X.env) :: starEach [] X.env := by rfl) : Ev X A (.Call (.Name "tuple" p) [e] [] pos) (.dat (.tuple ds)) := fun I0 H0 σ I H rl Q q =>
  wx_of (pe_callTy call_tuple_of hg hm hb (pa_cons wx_pe pa_nil hs) (by decide) (by decide) hs rfl) (h I0 H0 σ I H rl _ fun p vs I1 H1 g hk ha => ⟨p, vs, rfl, .inl ⟨hk, fun l hl => by
    have g2 := Grow.new (o := .tup vs) g.ih hl
    exact q _ _ _ (g.trans g2) (.tup upd_same (dpAll_mono g2.ii ha))⟩⟩)
theorem ev_tupleT {ds : List PyData} (hg : Gl X "tuple") (hm : X.mg "tuple" = none) (h : Ev X A e (.dat (.tuple ds))) (hb : bootBuiltins "tuple" = some (.type "tuple") := by decide +kernel) (hs : starEach (e :: []) X.env = (false, eval e X.env) :: starEach [] X.env := by rfl) : Ev X A (.Call (.Name "tuple" p) [e] [] pos) (.dat (.tuple ds)) := fun I0 H0 σ I H rl Q q =>
  wx_of (pe_callTy call_tuple_of hg hm hb (pa_cons wx_pe pa_nil hs) (by decide) (by decide) hs rfl) (h I0 H0 σ I H rl _ fun v I1 H1 g hv => by
    have hv : Dp X.K I1 v (.tuple ds) := hv
    obtain ⟨p, vs, rfl, hk, ha⟩ := dp_tup hv
    exact ⟨p, vs, rfl, .inr ⟨same_t g.ih hk, q _ I1 H1 g hv⟩⟩)
theorem ev_list {k : Bool} {ds : List PyData} (hg : Gl X "list") (hm : X.mg "list" = none) (h : EvS X A e k ds) (hb : bootBuiltins "list" = some (.type "list") := by decide +kernel) (hs : starEach (e :: []) X.env = (false, eval e X.env) :: starEach [] X.env := by rfl) : Ev X A (.Call (.Name "list" p) [e] [] pos) (.own (.lst ds)) := fun I0 H0 σ I H rl Q q =>
  wx_of (pe_callTy call_list_of hg hm hb (pa_cons wx_pe pa_nil hs) (by decide) (by decide) hs rfl) (h I0 H0 σ I H rl _ fun p vs I1 H1 g hk ha => ⟨p, vs, rfl, sqk hk, fun l hl => by
    have g2 := Grow.newH (o := .lst vs) g.ih hl
    exact q _ _ _ (g.trans g2) ⟨l, _, rfl, g.hh.free hl, g.ih.free hl, upd_same, ha⟩⟩)
theorem ev_intB {k : Bool} (hg : Gl X "int") (hm : X.mg "int" = none) (h : Ev X A e (.dat (.bool k))) (hb : bootBuiltins "int" = some (.type "int") := by decide +kernel) (hs : starEach (e :: []) X.env = (false, eval e X.env) :: starEach [] X.env := by rfl) : Ev X A (.Call (.Name "int" p) [e] [] pos) (.dat (.int (if k then 1 else 0))) := fun I0 H0 σ I H rl Q q =>
  wx_of (pe_callTy call_int1 hg hm hb (pa_cons wx_pe pa_nil hs) (by decide) (by decide) hs rfl) (h I0 H0 σ I H rl _ fun v I1 H1 g hv => .inr ⟨k, by rw [dp_bool hv], q _ I1 H1 g (Dp.int _)⟩)
theorem ev_strI {i : Int} (hg : Gl X "str") (hm : X.mg "str" = none) (h : Ev X A e (.dat (.int i))) (hz : i.natAbs.log2 < 1920) (hb : bootBuiltins "str" = some (.type "str") := by decide +kernel) (hs : starEach (e :: []) X.env = (false, eval e X.env) :: starEach [] X.env := by rfl) : Ev X A (.Call (.Name "str" p) [e] [] pos) (.dat (.str (toString i))) := fun I0 H0 σ I H rl Q q =>
  wx_of (pe_callTy call_str_int hg hm hb (pa_cons wx_pe pa_nil hs) (by decide) (by decide) hs rfl) (h I0 H0 σ I H rl _ fun v I1 H1 g hv => ⟨i, by rw [dp_int hv], hz, q _ I1 H1 g (Dp.str _)⟩)
theorem ev_max2 {i j : Int} {e2 : Expr} (hc : X.calm = true) (hg : Gl X "max") (hm : X.mg "max" = none) (h : EvA X A [e, e2] [.int i, .int j]) (hb : bootBuiltins "max" = some (.builtin "max") := by decide +kernel)
    (hs : starEach (e :: [e2]) X.env = (false, eval e X.env) :: starEach [e2] X.env := by rfl) (hpl : (backTo pos (starEach [e2] X.env)).any (·.1) = false := by rfl) : Ev X A (.Call (.Name "max" p) [e, e2] [] pos) (.dat (.int (max i j))) := fun I0 H0 σ I H rl Q q =>
  wx_of (pe_callB (call_max2 hc) hg hm hb wa_pa (by decide) (by decide) hs hpl) (h I0 H0 σ I H rl _ fun vs I1 H1 g hv => by
    cases hv with
    | cons h1 h2 => cases h2 with
      | cons h2 h3 =>
        cases h3
        exact ⟨i, j, by rw [dp_int h1, dp_int h2], q _ I1 H1 g (by
          have e1 : (if j > i then j else i) = max i j := by omega
          rw [e1]; exact Dp.int _)⟩)
theorem ev_min2 {i j : Int} {e2 : Expr} (hc : X.calm = true) (hg : Gl X "min") (hm : X.mg "min" = none) (h : EvA X A [e, e2] [.int i, .int j]) (hb : bootBuiltins "min" = some (.builtin "min") := by decide +kernel)
    (hs : starEach (e :: [e2]) X.env = (false, eval e X.env) :: starEach [e2] X.env := by rfl) (hpl : (backTo pos (starEach [e2] X.env)).any (·.1) = false := by rfl) : Ev X A (.Call (.Name "min" p) [e, e2] [] pos) (.dat (.int (min i j))) := fun I0 H0 σ I H rl Q q =>
  wx_of (pe_callB (call_min2 hc) hg hm hb wa_pa (by decide) (by decide) hs hpl) (h I0 H0 σ I H rl _ fun vs I1 H1 g hv => by
    cases hv with
    | cons h1 h2 => cases h2 with
      | cons h2 h3 =>
        cases h3
        exact ⟨i, j, by rw [dp_int h1, dp_int h2], q _ I1 H1 g (by
          have e1 : (if j < i then j else i) = min i j := by omega
          rw [e1]; exact Dp.int _)⟩)
theorem ev_sum {ns : List Int} (hc : X.calm = true) (hg : Gl X "sum") (hm : X.mg "sum" = none) (h : EvS X A e true (ns.map PyData.int)) (hb : bootBuiltins "sum" = some (.builtin "sum") := by decide +kernel) (hs : starEach (e :: []) X.env = (false, eval e X.env) :: starEach [] X.env := by rfl) : Ev X A (.Call (.Name "sum" p) [e] [] pos) (.dat (.int ns.sum)) := fun I0 H0 σ I H rl Q q =>
  wx_of (pe_callB (cr_sum hc) hg hm hb (pa_cons wx_pe pa_nil hs) (by decide) (by decide) hs rfl) (h I0 H0 σ I H rl _ fun p vs I1 H1 g hk ha => ⟨p, ns, rfl, by rw [← ints_of ha]; exact hk, q _ I1 H1 g (Dp.int _)⟩)
theorem ev_any {bs : List Bool} (hc : X.calm = true) (hg : Gl X "any") (hm : X.mg "any" = none) (h : EvS X A e true (bs.map PyData.bool)) (hb : bootBuiltins "any" = some (.builtin "any") := by decide +kernel) (hs : starEach (e :: []) X.env = (false, eval e X.env) :: starEach [] X.env := by rfl) : Ev X A (.Call (.Name "any" p) [e] [] pos) (.dat (.bool (bs.any id))) := fun I0 H0 σ I H rl Q q =>
  wx_of (pe_callB (cr_any hc) hg hm hb (pa_cons wx_pe pa_nil hs) (by decide) (by decide) hs rfl) (h I0 H0 σ I H rl _ fun p vs I1 H1 g hk ha => ⟨p, bs, rfl, by rw [← bls_of ha]; exact hk, q _ I1 H1 g (Dp.bl _)⟩)
theorem ev_all {bs : List Bool} (hc : X.calm = true) (hg : Gl X "all") (hm : X.mg "all" = none) (h : EvS X A e true (bs.map PyData.bool)) (hb : bootBuiltins "all" = some (.builtin "all") := by decide +kernel) (hs : starEach (e :: []) X.env = (false, eval e X.env) :: starEach [] X.env := by rfl) : Ev X A (.Call (.Name "all" p) [e] [] pos) (.dat (.bool (bs.all id))) := fun I0 H0 σ I H rl Q q =>
  wx_of (pe_callB (cr_all hc) hg hm hb (pa_cons wx_pe pa_nil hs) (by decide) (by decide) hs rfl) (h I0 H0 σ I H rl _ fun p vs I1 H1 g hk ha => ⟨p, bs, rfl, by rw [← bls_of ha]; exact hk, q _ I1 H1 g (Dp.bl _)⟩)
theorem ev_maxL {ns : List Int} {m : Int} (hc : X.calm = true) (hg : Gl X "max") (hm : X.mg "max" = none) (h : EvS X A e true (ns.map PyData.int)) (h1 : m ∈ ns) (h2 : ∀ y ∈ ns, y ≤ m) (hb : bootBuiltins "max" = some (.builtin "max") := by decide +kernel) (hs : starEach (e :: []) X.env = (false, eval e X.env) :: starEach [] X.env := by rfl) : Ev X A (.Call (.Name "max" p) [e] [] pos) (.dat (.int m)) := fun I0 H0 σ I H rl Q q =>
  wx_of (pe_callB (cr_max hc) hg hm hb (pa_cons wx_pe pa_nil hs) (by decide) (by decide) hs rfl) (h I0 H0 σ I H rl _ fun p vs I1 H1 g hk ha => ⟨p, ns, rfl, by rw [← ints_of ha]; exact hk, List.length_pos_of_mem h1, fun m' h3 h4 => by
    have e1 := h4 m h1
    have e2 := h2 m' h3
    have e3 : m' = m := by omega
    rw [e3]
    exact q _ I1 H1 g (Dp.int _)⟩)
theorem ev_minL {ns : List Int} {m : Int} (hc : X.calm = true) (hg : Gl X "min") (hm : X.mg "min" = none) (h : EvS X A e true (ns.map PyData.int)) (h1 : m ∈ ns) (h2 : ∀ y ∈ ns, m ≤ y) (hb : bootBuiltins "min" = some (.builtin "min") := by decide +kernel) (hs : starEach (e :: []) X.env = (false, eval e X.env) :: starEach [] X.env := by rfl) : Ev X A (.Call (.Name "min" p) [e] [] pos) (.dat (.int m)) := fun I0 H0 σ I H rl Q q =>
  wx_of (pe_callB (cr_min hc) hg hm hb (pa_cons wx_pe pa_nil hs) (by decide) (by decide) hs rfl) (h I0 H0 σ I H rl _ fun p vs I1 H1 g hk ha => ⟨p, ns, rfl, by rw [← ints_of ha]; exact hk, List.length_pos_of_mem h1, fun m' h3 h4 => by
    have e1 := h4 m h1
    have e2 := h2 m' h3
    have e3 : m' = m := by omega
    rw [e3]
    exact q _ I1 H1 g (Dp.int _)⟩)
/-! isinstance of data -/
def tyD : PyData → String
  | .none => "NoneType" | .bool _ => "bool" | .int _ => "int" | .str _ => "str" | .list _ => "list" | .tuple _ => "tuple" | .dict [] => "dict" | .dict (_ :: _) => "tuple"
theorem tyX_of {K : PySem.W.Frag} {H : Hp} {v : V} {d : PyData} (h : Dp K H v d) : TyX K H v (.type (tyD d)) := by
  cases h with
  | non => exact .base .non
  | bl b => exact .base (.bl b)
  | int i => exact .base (.int i)
  | str x => exact .base (.str x)
  | lst hs ha =>
    rcases hs with (h | ⟨o, h⟩) | ⟨o, its, n, h, c, _⟩
    · exact .base (.lst h)
    · exact .base (.frz h)
    · exact .kList h c
  | tup h ha => exact .base (.tup h)
  | dic h => exact .base (.dK h)
  | tpf h _ _ => exact .fTuple h
  | fz h _ _ _ => exact .fTuple h
/-- isinstance(x, T), T a built-in class -/
theorem ev_isi {T : String} {d : PyData} {r : Bool} {t : Expr} (hg : Gl X "isinstance") (hm : X.mg "isinstance" = none) (h1 : Ev X A e (.dat d)) (hT : t = .Name (Str.ofString T) p2) (hgT : Gl X (Str.ofString T)) (hmT : X.mg (Str.ofString T) = none)
    (hbT : bootBuiltins (Str.ofString T) = some (.type T)) (hk : kitB (tyD d) T = some r) (hn : Str.ofString T ≠ "__name__" := by decide) (hb : bootBuiltins "isinstance" = some (.builtin "isinstance") := by decide +kernel)
    (hs : starEach (e :: [t]) X.env = (false, eval e X.env) :: starEach [t] X.env := by rfl) (hs2 : starEach [t] X.env = (false, eval t X.env) :: starEach [] X.env := by rfl) (hpl : (backTo pos (starEach [t] X.env)).any (·.1) = false := by rfl) (hdb : (Str.ofString T == ("__debug__" : Str)) = false := by decide) :
    Ev X A (.Call (.Name "isinstance" p) [e, t] [] pos) (.dat (.bool r)) := fun I0 H0 σ I H rl Q q => by
  subst hT
  exact wx_of (pe_callB call_isi hg hm hb (pa_cons wx_pe (pa_cons (pe_bltn (v := .ty T) hgT hmT hbT rfl hn hdb) pa_nil hs2) hs) (by decide) (by decide) hs hpl) (h1 I0 H0 σ I H rl _ fun v I1 H1 g hv => ⟨v, .ty T, .type (tyD d), .type T, r, rfl, .ty T, tyX_of (dp_mono g.ih hv), kit_ty hk, q _ I1 H1 g (Dp.bl _)⟩)
end
end LR

set_option Elab.async false
set_option linter.all false
set_option maxRecDepth 100000
set_option maxHeartbeats 4000000
/-! The layer LR, part c: calls of defs, tests, statements, loops, the rule of a def. -/
namespace LR
open PySem PySem.Spec PyProof.Rows L2

inductive Res where
  | ok (c : C)
  | ex (x : Str)
/-- a promise by data: R of the arguments and the result -/
def Spec (K : PySem.W.Frag) (mg : Str → Option Value) (R : List PyData → Res → Prop) : Sp := fun vs H Q E => ∃ I ds r, Same I H ∧ DpAll K I vs ds ∧ R ds r ∧ match r with
  | .ok c => ∀ v I' H', Grow I H I' H' → VR K H I' H' v c → Q v H'
  | .ex x => ∀ I' H', Grow I H I' H' → ∀ c, mg x = some (.ref c) → E (.ref c) none H'
/-- a def of the text, as callers need it -/
structure Fn (P : Program) (w : World) (K : PySem.W.Frag) (mg : Str → Option Value) (base : Heap) (k : Nat) (x : Str) (ps : List Str) (R : List PyData → Res → Prop) : Prop where
  ex : ∃ f fd, FnOk P w K mg base (L2.CX P w) k f fd ps (Spec K mg R) ∧ mg x = some (.ref f) ∧ PySem.W.keepIn K (.ref f) = true ∧ Binds K fd ps [] ∧ ∃ (oc : Value) (od : Option Addr) (osl : Array (Option Value)), K.lookup f = some ⟨oc, od, .func fd, osl⟩
/-- the def behind it, told by its object -/
theorem Fn.withFd {P : Program} {w : World} {K : PySem.W.Frag} {mg : Str → Option Value} {base : Heap} {k : Nat} {x : Str} {ps : List Str} {R : List PyData → Res → Prop} (F : Fn P w K mg base k x ps R) {f : Addr} {fd : FuncData} {oc : Value} {od : Option Addr} {osl : Array (Option Value)}
    (hm : mg x = some (.ref f)) (hl : K.lookup f = some ⟨oc, od, .func fd, osl⟩) : ∃ f fd', FnOk P w K mg base (L2.CX P w) k f fd' ps (Spec K mg R) ∧ mg x = some (.ref f) ∧ fd' = fd := by
  obtain ⟨f', fd', F', hm', _, _, oc', od', osl', hl'⟩ := F.ex
  have e := hm.symm.trans hm'
  cases e
  have e2 := hl.symm.trans hl'
  cases e2
  exact ⟨f, fd, F', hm, rfl⟩
theorem Fn.imp {P : Program} {w : World} {K : PySem.W.Frag} {mg : Str → Option Value} {base : Heap} {k : Nat} {x : Str} {ps : List Str} {R R' : List PyData → Res → Prop} (F : Fn P w K mg base k x ps R) (h : ∀ ds r, R' ds r → R ds r) : Fn P w K mg base k x ps R' := by
  obtain ⟨f, fd, F, a, b, c⟩ := F.ex
  exact ⟨f, fd, F.imp fun vs H Q E ⟨I, ds, r, s, hd, hr, q⟩ => ⟨I, ds, r, s, hd, h ds r hr, q⟩, a, b, c⟩
theorem Fn.mono {P : Program} {w : World} {K : PySem.W.Frag} {mg : Str → Option Value} {base : Heap} {j k : Nat} {x : Str} {ps : List Str} {R : List PyData → Res → Prop} (F : Fn P w K mg base j x ps R) (h : j ≤ k) : Fn P w K mg base k x ps R := by
  obtain ⟨f, fd, F, a, b, c⟩ := F.ex
  exact ⟨f, fd, F.mono h, a, b, c⟩

section
variable {X : Cx} {e a b : Expr} {es : List Expr} {σ : L2.St} {H : Hp} {Q : VK} {A : List C} {pos p p2 : Pos} {x : Str}

theorem ev_call {k : Nat} {ps : List Str} {R : List PyData → Res → Prop} {ds : List PyData} {c : C} (G : Fn X.prog X.w X.K X.mg X.base k x ps R) (hr : Room k X.A) (hg : Gl X x) (ha : EvA X A (e :: es) ds) (h : R ds (.ok c)) (hdb : (x == ("__debug__" : Str)) = false := by decide)
    (he : starEach (e :: es) X.env = (false, eval e X.env) :: starEach es X.env := by rfl) (hpl : (backTo pos (starEach es X.env)).any (·.1) = false := by rfl) : Ev X A (.Call (.Name x p) (e :: es) [] pos) c := fun I0 H0 σ I H rl Q q => by
  obtain ⟨f, fd, F, hm, hk, hb, _⟩ := G.ex
  exact wx_of (pe_call F hr hg hm hk hb .nil passL wa_pa hdb he hpl) (ha I0 H0 σ I H rl _ fun vs I1 H1 g hv => ⟨I1, ds, .ok c, g.ih, by rw [List.append_nil]; exact hv, h, fun v I2 H2 g2 hv2 => q v I2 H2 (g.trans g2) (hv2.back g.hh)⟩)
/-- the expression raises x -/
def EvX (X : Cx) (A : List C) (e : Expr) (x : Str) : Prop := ∀ I0 H0 σ I H, Rel X.K I0 H0 A σ I H → ∀ W : WX, Takes X W → (∀ I' H', Grow I H I' H' → ∀ c, X.mg x = some (.ref c) → W (.ref c) none σ H') → ∀ Q : VK, Wx X e σ H Q
theorem evx_call {k : Nat} {ps : List Str} {R : List PyData → Res → Prop} {ds : List PyData} {y : Str} (G : Fn X.prog X.w X.K X.mg X.base k x ps R) (hr : Room k X.A) (hg : Gl X x) (ha : EvA X A (e :: es) ds) (h : R ds (.ex y)) (hdb : (x == ("__debug__" : Str)) = false := by decide)
    (he : starEach (e :: es) X.env = (false, eval e X.env) :: starEach es X.env := by rfl) (hpl : (backTo pos (starEach es X.env)).any (·.1) = false := by rfl) : EvX X A (.Call (.Name x p) (e :: es) [] pos) y := fun I0 H0 σ I H rl W tk q Q => by
  obtain ⟨f, fd, F, hm, hk, hb, _⟩ := G.ex
  exact wx_of (pe_callS F hr hg hm hk hb (fun σ => passAt tk σ) wa_pa hdb he hpl) (ha I0 H0 σ I H rl _ fun vs I1 H1 g hv => ⟨I1, ds, .ex y, g.ih, hv, h, fun I2 H2 g2 c hc => q I2 H2 (g.trans g2) c hc⟩)
/-! tests -/
theorem et_ev {v : Bool} (h : Ev X A e (.dat (.bool v))) (he : ∀ whole, isTrue e X.env whole = (do let v ← whole; standAt e.pos; holding [v] (truthy v)) := by intro _; rfl) : Et X A e v := fun I0 H0 σ I H rl Q q =>
  wt_of (pt_val wx_pe he) (h I0 H0 σ I H rl _ fun u I1 H1 g hv => ⟨v, dp_bool hv, q I1 H1 g⟩)
/-- a list, a tuple by its truth -/
theorem et_seq {k : Bool} {ds : List PyData} (h : EvS X A e k ds) (he : ∀ whole, isTrue e X.env whole = (do let v ← whole; standAt e.pos; holding [v] (truthy v)) := by intro _; rfl) : Et X A e (!ds.isEmpty) := fun I0 H0 σ I H rl Q q =>
  wt_of (pt_truth wx_pe he) (h I0 H0 σ I H rl _ fun p vs I1 H1 g hk ha => ⟨!ds.isEmpty, by
    have e1 : vs.isEmpty = ds.isEmpty := by cases ha <;> rfl
    rw [← e1]
    cases k with
    | true => exact .inl ⟨vs, hk, rfl⟩
    | false => exact .inr (.inl ⟨vs, hk, rfl⟩), q I1 H1 g⟩)
theorem et_not {v : Bool} (h : Et X A a v) : Et X A (.UnaryOp .Not a pos) (!v) := fun I0 H0 σ I H rl Q q => wt_of (pt_not wt_pe) (h I0 H0 σ I H rl _ q)
theorem ew_et {v : Bool} (h : Ew X A e v) : Et X A e v := fun I0 H0 σ I H rl Q q pins s I => (h I0 H0 σ _ H rl Q q) _ pins s I
theorem ew_and1 {v : Bool} (h : Et X A a v) : Ew X A (.BoolOp .And [a] pos) v := fun I0 H0 σ I H rl Q q => ww_of (pw_and1 wt_pe) (h I0 H0 σ I H rl _ q)
theorem ew_or1 {v : Bool} (h : Et X A a v) : Ew X A (.BoolOp .Or [a] pos) v := fun I0 H0 σ I H rl Q q => ww_of (pw_or1 wt_pe) (h I0 H0 σ I H rl _ q)
theorem ew_and {v u : Bool} (h : Et X A a v) (h2 : v = true → Ew X A (.BoolOp .And (b :: es) pos) u) : Ew X A (.BoolOp .And (a :: b :: es) pos) (v && u) := fun I0 H0 σ I H rl Q q =>
  ww_of (pw_and wt_pe ww_pw) (h I0 H0 σ I H rl _ fun I1 H1 g => by
    cases v with
    | true => exact iteT (h2 rfl I0 H0 σ I1 H1 (rl.grow g) Q fun I2 H2 g2 => q I2 H2 (g.trans g2))
    | false => exact iteF (q I1 H1 g))
theorem ew_or {v u : Bool} (h : Et X A a v) (h2 : v = false → Ew X A (.BoolOp .Or (b :: es) pos) u) : Ew X A (.BoolOp .Or (a :: b :: es) pos) (v || u) := fun I0 H0 σ I H rl Q q =>
  ww_of (pw_or wt_pe ww_pw) (h I0 H0 σ I H rl _ fun I1 H1 g => by
    cases v with
    | true => exact iteT (q I1 H1 g)
    | false => exact iteF (h2 rfl I0 H0 σ I1 H1 (rl.grow g) Q fun I2 H2 g2 => q I2 H2 (g.trans g2)))
/-! and, or, not as values -/
theorem ev_not {v : Bool} (h : Ev X A a (.dat (.bool v))) : Ev X A (.UnaryOp .Not a pos) (.dat (.bool (!v))) := fun I0 H0 σ I H rl Q q =>
  wx_of (pe_not wx_pe) (h I0 H0 σ I H rl _ fun u I1 H1 g hv => ⟨v, dp_bool hv, q _ I1 H1 g (Dp.bl _)⟩)
theorem ev_one {op : BoolOp} {c : C} (h : Ev X A a c) : Ev X A (.BoolOp op [a] pos) c := by
  cases op with
  | And => exact fun I0 H0 σ I H rl Q q => wx_of (pe_one wx_pe) (h I0 H0 σ I H rl Q q)
  | Or => exact fun I0 H0 σ I H rl Q q => wx_of (pe_one wx_pe) (h I0 H0 σ I H rl Q q)
theorem ev_and {v u : Bool} (h : Ev X A a (.dat (.bool v))) (h2 : v = true → Ev X A (.BoolOp .And (b :: es) pos) (.dat (.bool u))) : Ev X A (.BoolOp .And (a :: b :: es) pos) (.dat (.bool (v && u))) := fun I0 H0 σ I H rl Q q =>
  wx_of (pe_and wx_pe wx_pe) (h I0 H0 σ I H rl _ fun w I1 H1 g hv => ⟨v, dp_bool hv, by
    cases v with
    | true => exact iteT (h2 rfl I0 H0 σ I1 H1 (rl.grow g) Q fun y I2 H2 g2 hy => q y I2 H2 (g.trans g2) hy)
    | false => exact iteF (q _ I1 H1 g (Dp.bl false))⟩)
theorem ev_or {v u : Bool} (h : Ev X A a (.dat (.bool v))) (h2 : v = false → Ev X A (.BoolOp .Or (b :: es) pos) (.dat (.bool u))) : Ev X A (.BoolOp .Or (a :: b :: es) pos) (.dat (.bool (v || u))) := fun I0 H0 σ I H rl Q q =>
  wx_of (pe_or wx_pe wx_pe) (h I0 H0 σ I H rl _ fun w I1 H1 g hv => ⟨v, dp_bool hv, by
    cases v with
    | true => exact iteT (q _ I1 H1 g (Dp.bl true))
    | false => exact iteF (h2 rfl I0 H0 σ I1 H1 (rl.grow g) Q fun y I2 H2 g2 hy => q y I2 H2 (g.trans g2) hy)⟩)

/-! ### what is walked -/
def Walks (K : PySem.W.Frag) (J : It) (I1 : Hp) (src : List PyData) : Prop :=
  (∀ (i : Nat) (d : PyData), src[i]? = some d → ∀ I2 H2, Same I1 I2 → Same I2 H2 → J.go i H2 ∧ ∀ x H3, J.yld i H2 x H3 → ∃ I3, Grow I2 H2 I3 H3 ∧ Dp K I3 x d) ∧ ∀ I2 H2, Same I1 I2 → Same I2 H2 → J.stop src.length H2
def EvI (X : Cx) (A : List C) (tg e : Expr) (src : List PyData) : Prop := ∃ wi, PI X tg e wi ∧ ∀ I0 H0 σ I H, Rel X.K I0 H0 A σ I H → ∀ R : It → Hp → Prop, (∀ J I' H', Grow I H I' H' → Walks X.K J I' src → R J H') → wi σ H R
theorem walks_list {K : PySem.W.Frag} {I1 : Hp} {a : Addr} {vs : List V} {src : List PyData} (hs : SqL K I1 a vs) (ha : DpAll K I1 vs src) : Walks K (Itl K a) I1 src := by
  refine ⟨fun i d e I2 H2 s1 s2 => ?_, fun I2 H2 s1 s2 => ⟨vs, same_l (s1.trans s2) hs, Nat.le_of_eq (dpAll_len ha)⟩⟩
  obtain ⟨v, e1, e2⟩ := dpAll_get ha e
  refine ⟨⟨vs, v, same_l (s1.trans s2) hs, e1⟩, fun x H3 ⟨e3, f⟩ => ?_⟩
  subst e3
  have e4 : x = v := Option.some.inj ((f _ (same_l (s1.trans s2) hs)).symm.trans e1)
  subst e4
  exact ⟨I2, .refl s2, dp_mono s1 e2⟩
theorem walks_tup {K : PySem.W.Frag} {I1 : Hp} {a : Addr} {vs : List V} {src : List PyData} (hs : SqT K I1 a vs) (ha : DpAll K I1 vs src) : Walks K (Itt K a) I1 src := by
  refine ⟨fun i d e I2 H2 s1 s2 => ?_, fun I2 H2 s1 s2 => ⟨vs, same_t (s1.trans s2) hs, Nat.le_of_eq (dpAll_len ha)⟩⟩
  obtain ⟨v, e1, e2⟩ := dpAll_get ha e
  refine ⟨⟨vs, v, same_t (s1.trans s2) hs, e1⟩, fun x H3 ⟨e3, f⟩ => ?_⟩
  subst e3
  have e4 : x = v := Option.some.inj ((f _ (same_t (s1.trans s2) hs)).symm.trans e1)
  subst e4
  exact ⟨I2, .refl s2, dp_mono s1 e2⟩
theorem walks_rng {K : PySem.W.Frag} {I1 : Hp} {lo : Int} {n : Nat} : Walks K (Itr lo n) I1 ((List.range n).map fun i : Nat => .int (lo + i)) := by
  refine ⟨fun i d e I2 H2 s1 s2 => ?_, fun I2 H2 s1 s2 => by show n ≤ _; simp⟩
  rw [List.getElem?_map] at e
  by_cases hi : i < n
  · rw [List.getElem?_range hi] at e
    refine ⟨hi, fun x H3 ⟨e3, f⟩ => ?_⟩
    subst e3 f
    simp at e
    subst e
    exact ⟨I2, .refl s2, .int _⟩
  · rw [List.getElem?_eq_none (by simpa using hi)] at e
    cases e
theorem ei_list {tg : Expr} {src : List PyData} (h : Ev X A e (.dat (.list src))) : EvI X A tg e src := ⟨_, pi_list wx_pe, fun I0 H0 σ I H rl R q => h I0 H0 σ I H rl _ fun v I1 H1 g hv => by
  obtain ⟨a, vs, rfl, hs, ha⟩ := dp_lst (show Dp X.K I1 v (.list src) from hv)
  exact ⟨a, rfl, ⟨vs, same_l g.ih hs⟩, q _ I1 H1 g (walks_list hs ha)⟩⟩
theorem ei_tup {tg : Expr} {src : List PyData} (h : Ev X A e (.dat (.tuple src))) : EvI X A tg e src := ⟨_, pi_tup wx_pe, fun I0 H0 σ I H rl R q => h I0 H0 σ I H rl _ fun v I1 H1 g hv => by
  obtain ⟨a, vs, rfl, hs, ha⟩ := dp_tup (show Dp X.K I1 v (.tuple src) from hv)
  exact ⟨a, rfl, ⟨vs, same_t g.ih hs⟩, q _ I1 H1 g (walks_tup hs ha)⟩⟩
theorem ei_range {tg : Expr} {n : Int} (hg : Gl X "range") (hm : X.mg "range" = none) (h : Ev X A a (.dat (.int n))) (h1 : -1000000 ≤ n) (h2 : n ≤ 1000000) (hs : starEach (a :: []) X.env = (false, eval a X.env) :: starEach [] X.env := by rfl) :
    EvI X A tg (.Call (.Name "range" p) [a] [] pos) ((List.range n.toNat).map fun i : Nat => .int (i : Int)) := ⟨_, pi_range1 hg hm (pa_cons wx_pe pa_nil hs) hs, fun I0 H0 σ I H rl R q => h I0 H0 σ I H rl _ fun v I1 H1 g hv => by
  refine ⟨n, by rw [dp_int hv], by omega, by omega, q _ I1 H1 g ?_⟩
  have w := walks_rng (K := X.K) (I1 := I1) (lo := 0) (n := n.toNat)
  simp only [Int.zero_add] at w
  exact w⟩
theorem ei_range2 {tg : Expr} {lo hi : Int} (hg : Gl X "range") (hm : X.mg "range" = none) (h : EvA X A [a, b] [.int lo, .int hi]) (h1 : -1000000 ≤ lo) (h2 : lo ≤ 1000000) (h3 : -1000000 ≤ hi) (h4 : hi ≤ 1000000) (hs : starEach [a, b] X.env = [(false, eval a X.env), (false, eval b X.env)] := by rfl) (hs2 : starEach [b] X.env = [(false, eval b X.env)] := by rfl) :
    EvI X A tg (.Call (.Name "range" p) [a, b] [] pos) ((List.range (hi - lo).toNat).map fun i : Nat => .int (lo + i)) := ⟨_, pi_range2 hg hm wa_pa hs hs2, fun I0 H0 σ I H rl R q => h I0 H0 σ I H rl _ fun vs I1 H1 g hv => by
  cases hv with
  | cons a1 a2 => cases a2 with
    | cons a2 a3 =>
      cases a3
      exact ⟨lo, hi, by rw [dp_int a1, dp_int a2], ⟨by omega, by omega, by omega, by omega⟩, q _ I1 H1 g walks_rng⟩⟩

/-! ### targets -/
theorem rel_set {K : PySem.W.Frag} {I0 H0 I H : Hp} {A : List C} {σ : L2.St} (r : Rel K I0 H0 A σ I H) {j : Nat} {v : V} {d : PyData} (hd : Dp K I v d) (hj : j < A.length) : Rel K I0 H0 (A.set j (.dat d)) (σ.set j (some v)) I H where
  gr := r.gr
  len := by rw [List.length_set, List.length_set]; exact r.len
  cell := fun i c h => by
    by_cases hi : j = i
    · subst hi
      rw [List.getElem?_set_self hj] at h
      cases h
      exact ⟨v, List.getElem?_set_self (by rw [r.len]; exact hj), hd⟩
    · rw [List.getElem?_set_ne hi] at h
      have q := r.cell i c h
      rw [List.getElem?_set_ne hi]
      exact q
  apart := fun i i' p ne o1 o2 h => by
    have ji : j ≠ i := fun e => by subst e; rw [List.getElem?_set_self hj] at o1; exact o1
    have ji' : j ≠ i' := fun e => by subst e; rw [List.getElem?_set_self hj] at o2; exact o2
    rw [List.getElem?_set_ne ji] at o1 h
    rw [List.getElem?_set_ne ji'] at o2 ⊢
    exact r.apart i i' p ne o1 o2 h
theorem rel_un {K : PySem.W.Frag} {I0 H0 I H : Hp} {A : List C} {σ : L2.St} (r : Rel K I0 H0 A σ I H) {j : Nat} {x : Option V} : Rel K I0 H0 (A.set j .un) (σ.set j x) I H where
  gr := r.gr
  len := by rw [List.length_set, List.length_set]; exact r.len
  cell := fun i c h => by
    by_cases hi : j = i
    · subst hi
      by_cases hj : j < A.length
      · rw [List.getElem?_set_self hj] at h
        cases h
        trivial
      · rw [List.getElem?_eq_none (by simpa using hj)] at h
        cases h
    · rw [List.getElem?_set_ne hi] at h
      have q := r.cell i c h
      rw [List.getElem?_set_ne hi]
      exact q
  apart := fun i i' p ne o1 o2 h => by
    have key : ∀ i, isOwn (A.set j .un)[i]? → j ≠ i := fun i o e => by
      subst e
      by_cases hj : j < A.length
      · rw [List.getElem?_set_self hj] at o; exact o
      · rw [List.getElem?_eq_none (by simpa using hj)] at o; exact o
    have ji := key i o1
    have ji' := key i' o2
    rw [List.getElem?_set_ne ji] at o1 h
    rw [List.getElem?_set_ne ji'] at o2 ⊢
    exact r.apart i i' p ne o1 o2 h
/-- a new object of the def's own to name j -/
theorem rel_own {K : PySem.W.Frag} {I0 H0 I H Hs : Hp} {A : List C} {σ : L2.St} (r : Rel K I0 H0 A σ I H) {j : Nat} {p : Addr} {o : HO} {b : Ob} (hj : j < A.length) (n0 : H0 p = none) (n : I p = none) (ho : H p = some o) (hb : ObAt K I o b)
    (far : ∀ i : Nat, isOwn A[i]? → σ[i]? ≠ some (some (.ref p))) : Rel K I0 H0 (A.set j (.own b)) (σ.set j (some (.ref p))) I H where
  gr := r.gr
  len := by rw [List.length_set, List.length_set]; exact r.len
  cell := fun i c h => by
    by_cases hi : j = i
    · subst hi
      rw [List.getElem?_set_self hj] at h
      cases h
      exact ⟨p, o, List.getElem?_set_self (by rw [r.len]; exact hj), n0, n, ho, hb⟩
    · rw [List.getElem?_set_ne hi] at h
      have q := r.cell i c h
      rw [List.getElem?_set_ne hi]
      exact q
  apart := fun i i' q ne o1 o2 h => by
    by_cases ji : j = i
    · subst ji
      rw [List.getElem?_set_self (by rw [r.len]; exact hj)] at h
      cases h
      rw [List.getElem?_set_ne ne] at o2 ⊢
      exact far i' o2
    · by_cases ji' : j = i'
      · subst ji'
        rw [List.getElem?_set_self (by rw [r.len]; exact hj)]
        rw [List.getElem?_set_ne ji] at o1 h
        intro z
        have z' := Option.some.inj (Option.some.inj z)
        injection z' with z'
        subst z'
        exact far i o1 h
      · rw [List.getElem?_set_ne ji] at o1 h
        rw [List.getElem?_set_ne ji'] at o2 ⊢
        exact r.apart i i' q ne o1 o2 h
theorem Rel.far {K : PySem.W.Frag} {I0 H0 I H : Hp} {A : List C} {σ : L2.St} (r : Rel K I0 H0 A σ I H) {p : Addr} (n : H p = none) : ∀ i : Nat, isOwn A[i]? → σ[i]? ≠ some (some (.ref p)) := fun i o e => by
  cases q : A[i]? with
  | none => rw [q] at o; exact o
  | some c =>
    rw [q] at o
    cases c with
    | own b =>
      obtain ⟨p', o', e', _, _, ho, _⟩ := r.cell i _ q
      rw [e'] at e
      have z := Option.some.inj (Option.some.inj e)
      injection z with z
      subst z
      rw [n] at ho
      cases ho
    | un => exact o
    | dat d => exact o
    | rf a => exact o
    | tpo ds es => exact o
    | kn a d => exact o
/-- a reference to name j -/
theorem rel_rf {K : PySem.W.Frag} {I0 H0 I H : Hp} {A : List C} {σ : L2.St} (r : Rel K I0 H0 A σ I H) {j : Nat} {a : Addr} (hj : j < A.length) : Rel K I0 H0 (A.set j (.rf a)) (σ.set j (some (.ref a))) I H where
  gr := r.gr
  len := by rw [List.length_set, List.length_set]; exact r.len
  cell := fun i c h => by
    by_cases hi : j = i
    · subst hi
      rw [List.getElem?_set_self hj] at h
      cases h
      exact List.getElem?_set_self (by rw [r.len]; exact hj)
    · rw [List.getElem?_set_ne hi] at h
      have q := r.cell i c h
      rw [List.getElem?_set_ne hi]
      exact q
  apart := fun i i' p ne o1 o2 h => by
    have ji : j ≠ i := fun e => by subst e; rw [List.getElem?_set_self hj] at o1; exact o1
    have ji' : j ≠ i' := fun e => by subst e; rw [List.getElem?_set_self hj] at o2; exact o2
    rw [List.getElem?_set_ne ji] at o1 h
    rw [List.getElem?_set_ne ji'] at o2 ⊢
    exact r.apart i i' p ne o1 o2 h
theorem rel_kn {K : PySem.W.Frag} {I0 H0 I H : Hp} {A : List C} {σ : L2.St} (r : Rel K I0 H0 A σ I H) {j : Nat} {a : Addr} {d : PyData} (hd : Dp K I (.ref a) d) (hj : j < A.length) : Rel K I0 H0 (A.set j (.kn a d)) (σ.set j (some (.ref a))) I H where
  gr := r.gr
  len := by rw [List.length_set, List.length_set]; exact r.len
  cell := fun i c h => by
    by_cases hi : j = i
    · subst hi
      rw [List.getElem?_set_self hj] at h
      cases h
      exact ⟨List.getElem?_set_self (by rw [r.len]; exact hj), hd⟩
    · rw [List.getElem?_set_ne hi] at h
      have q := r.cell i c h
      rw [List.getElem?_set_ne hi]
      exact q
  apart := fun i i' p ne o1 o2 h => by
    have ji : j ≠ i := fun e => by subst e; rw [List.getElem?_set_self hj] at o1; exact o1
    have ji' : j ≠ i' := fun e => by subst e; rw [List.getElem?_set_self hj] at o2; exact o2
    rw [List.getElem?_set_ne ji] at o1 h
    rw [List.getElem?_set_ne ji'] at o2 ⊢
    exact r.apart i i' p ne o1 o2 h
theorem rel_tpo {K : PySem.W.Frag} {I0 H0 I H : Hp} {A : List C} {σ : L2.St} (r : Rel K I0 H0 A σ I H) {j : Nat} {ds es : List PyData} {x : Option V} (hj : j < A.length) : Rel K I0 H0 (A.set j (.tpo ds es)) (σ.set j x) I H where
  gr := r.gr
  len := by rw [List.length_set, List.length_set]; exact r.len
  cell := fun i c h => by
    by_cases hi : j = i
    · subst hi
      rw [List.getElem?_set_self hj] at h
      cases h
      trivial
    · rw [List.getElem?_set_ne hi] at h
      have q := r.cell i c h
      rw [List.getElem?_set_ne hi]
      exact q
  apart := fun i i' p ne o1 o2 h => by
    have ji : j ≠ i := fun e => by subst e; rw [List.getElem?_set_self hj] at o1; exact o1
    have ji' : j ≠ i' := fun e => by subst e; rw [List.getElem?_set_self hj] at o2; exact o2
    rw [List.getElem?_set_ne ji] at o1 h
    rw [List.getElem?_set_ne ji'] at o2 ⊢
    exact r.apart i i' p ne o1 o2 h
/-- a value to name j -/
theorem rel_put {K : PySem.W.Frag} {I0 H0 I H I' H' : Hp} {A : List C} {σ : L2.St} (r : Rel K I0 H0 A σ I H) (g : Grow I H I' H') {j : Nat} {v : V} {c : C} (hv : VR K H I' H' v c) (hj : j < A.length) : Rel K I0 H0 (A.set j c) (σ.set j (some v)) I' H' := by
  have r' := r.grow g
  cases c with
  | un => exact rel_un r'
  | dat d => exact rel_set r' hv hj
  | own b =>
    obtain ⟨p, o, rfl, n, n', ho, hb⟩ := hv
    exact rel_own (Hs := H) r' hj (r.gr.hh.free n) n' ho hb (r.far n)
  | rf a =>
    rw [show v = .ref a from hv]
    exact rel_rf r' hj
  | tpo ds es => exact rel_tpo r' hj
  | kn a d =>
    obtain ⟨rfl, hd⟩ := (show v = .ref a ∧ Dp K I' v d from hv)
    exact rel_kn r' hd hj

/-! ### statements -/
inductive Out where
  | nx (A : List C)
  | rt (c : C)
  | ex (x : Str) (A : List C)
  | bk (A : List C)
def Fin (X : Cx) (I0 H0 I : Hp) (D : Ends) : Out → Prop
  | .nx A => ∀ σ' I' H', Same I I' → Rel X.K I0 H0 A σ' I' H' → D.nx σ' H'
  | .bk A => ∀ σ' I' H', Same I I' → Rel X.K I0 H0 A σ' I' H' → D.bk σ' H'
  | .rt c => ∀ v I' H', Same I I' → Grow I0 H0 I' H' → VR X.K H0 I' H' v c → D.rt v H'
  | .ex x A => ∃ W : WX, Takes X W ∧ ∀ σ' I' H', Same I I' → Rel X.K I0 H0 A σ' I' H' → ∀ c, X.mg x = some (.ref c) → W (.ref c) none σ' H'
def S1 (X : Cx) (A : List C) (st : Stmt) (o : Out) : Prop := ∀ I0 H0 σ I H, Rel X.K I0 H0 A σ I H → ∀ D : Ends, Fin X I0 H0 I D o → Ws X st D σ H
def Sm (X : Cx) (A : List C) (st : List Stmt) (o : Out) : Prop := ∀ I0 H0 σ I H, Rel X.K I0 H0 A σ I H → ∀ D : Ends, Fin X I0 H0 I D o → Wss X st D σ H
theorem Fin.same {I0 H0 I I1 : Hp} {D : Ends} {o : Out} (s : Same I I1) (f : Fin X I0 H0 I D o) : Fin X I0 H0 I1 D o := by
  cases o with
  | nx A => exact fun σ' I' H' s' r => f σ' I' H' (s.trans s') r
  | bk A => exact fun σ' I' H' s' r => f σ' I' H' (s.trans s') r
  | rt c => exact fun v I' H' s' g h => f v I' H' (s.trans s') g h
  | ex x A =>
    obtain ⟨W, tk, f⟩ := f
    exact ⟨W, tk, fun σ' I' H' s' r => f σ' I' H' (s.trans s') r⟩
/-- ends that agree where o looks -/
theorem Fin.nxD {I0 H0 I : Hp} {D : Ends} {o : Out} {n : L2.St → Hp → Prop} (ho : ∀ A, o ≠ .nx A) (f : Fin X I0 H0 I D o) : Fin X I0 H0 I { D with nx := n } o := by
  cases o with
  | nx A => exact absurd rfl (ho A)
  | bk A => exact f
  | rt c => exact f
  | ex x A => exact f
def Out.isNx : Out → Bool
  | .nx _ => true
  | _ => false
theorem sm_nil : Sm X A [] (.nx A) := fun I0 H0 σ I H rl D f => wss_of pss_nil (f σ I H (Same.refl _) rl)
theorem sm_cons {st : Stmt} {r : List Stmt} {A1 : List C} {o : Out} (h1 : S1 X A st (.nx A1)) (h2 : Sm X A1 r o) : Sm X A (st :: r) o := fun I0 H0 σ I H rl D f =>
  wss_of (pss_cons ws_ps wss_pss) (h1 I0 H0 σ I H rl _ fun σ' I' H' s rl' => h2 I0 H0 σ' I' H' rl' D (f.same s))
theorem sm_end {st : Stmt} {r : List Stmt} {o : Out} (h1 : S1 X A st o) (ho : o.isNx = false := by rfl) : Sm X A (st :: r) o := fun I0 H0 σ I H rl D f =>
  wss_of (pss_cons ws_ps wss_pss) (h1 I0 H0 σ I H rl _ (f.nxD fun A e => by rw [e] at ho; cases ho))
theorem sm_one {st : Stmt} {o : Out} (h1 : S1 X A st o) : Sm X A [st] o := fun I0 H0 σ I H rl D f => wss_of (pss_one ws_ps) (h1 I0 H0 σ I H rl D f)
/-- less is known behind -/
def LeC (c c' : C) : Prop := c' = .un ∨ c = c'
def LeA (A A' : List C) : Prop := A.length = A'.length ∧ ∀ (i : Nat) (c c' : C), A[i]? = some c → A'[i]? = some c' → LeC c c'
theorem LeA.rel {K : PySem.W.Frag} {I0 H0 I H : Hp} {A A' : List C} {σ : L2.St} (l : LeA A A') (r : Rel K I0 H0 A σ I H) : Rel K I0 H0 A' σ I H where
  gr := r.gr
  len := by rw [r.len, l.1]
  cell := fun i c' h => by
    have hi : i < A'.length := by
      by_cases hi : i < A'.length
      · exact hi
      · rw [List.getElem?_eq_none (by omega)] at h; cases h
    have hA : A[i]? = some (A[i]'(by rw [l.1]; exact hi)) := List.getElem?_eq_getElem _
    rcases l.2 i _ c' hA h with z | z
    · subst z; trivial
    · rw [← z]; exact r.cell i _ hA
  apart := fun i j p ne o1 o2 h => by
    have key : ∀ i : Nat, isOwn A'[i]? → isOwn A[i]? := fun i o => by
      have hi : i < A'.length := by
        by_cases hi : i < A'.length
        · exact hi
        · rw [List.getElem?_eq_none (by omega)] at o; exact o.elim
      have hA : A[i]? = some (A[i]'(by rw [l.1]; exact hi)) := List.getElem?_eq_getElem _
      have hA' : A'[i]? = some A'[i] := List.getElem?_eq_getElem _
      rcases l.2 i _ _ hA hA' with z | z
      · rw [hA', z] at o; exact o.elim
      · rw [hA, z, ← hA']; exact o
    exact r.apart i j p ne (key i o1) (key j o2) h
theorem LeA.refl : LeA A A := ⟨rfl, fun i c c' h h' => .inr (Option.some.inj (h.symm.trans h'))⟩
theorem LeA.nil : LeA [] [] := LeA.refl
theorem LeA.cons {c c' : C} {A A' : List C} (h : LeC c c') (t : LeA A A') : LeA (c :: A) (c' :: A') := ⟨by rw [List.length_cons, List.length_cons, t.1], fun i d d' h1 h2 => by
  cases i with
  | zero => simp at h1 h2; subst h1 h2; exact h
  | succ i => exact t.2 i d d' (by simpa using h1) (by simpa using h2)⟩
theorem LeC.un {c : C} : LeC c .un := .inl rfl
theorem LeC.refl {c : C} : LeC c c := .inr rfl
theorem LeC.eq {c c' : C} (h : c = c') : LeC c c' := .inr h
theorem LeC.dat {d d' : PyData} (h : d = d') : LeC (.dat d) (.dat d') := .inr (by rw [h])
theorem LeC.int {d d' : Int} (h : d = d') : LeC (.dat (.int d)) (.dat (.int d')) := .inr (by rw [h])
theorem LeC.str {d d' : Str} (h : d = d') : LeC (.dat (.str d)) (.dat (.str d')) := .inr (by rw [h])
theorem LeC.tup {d d' : List PyData} (h : d = d') : LeC (.dat (.tuple d)) (.dat (.tuple d')) := .inr (by rw [h])
theorem LeC.tupI {d d' : List Int} (h : d = d') : LeC (.dat (.tuple (d.map .int))) (.dat (.tuple (d'.map .int))) := .inr (by rw [h])
theorem LeC.own {d d' : List PyData} (h : d = d') : LeC (.own (.lst d)) (.own (.lst d')) := .inr (by rw [h])
theorem sm_le {st : List Stmt} {A1 A2 : List C} (h : Sm X A st (.nx A1)) (l : LeA A1 A2) : Sm X A st (.nx A2) := fun I0 H0 σ I H rl D f => h I0 H0 σ I H rl D fun σ' I' H' s r => f σ' I' H' s (l.rel r)
theorem s1_le {st : Stmt} {A1 A2 : List C} (h : S1 X A st (.nx A1)) (l : LeA A1 A2) : S1 X A st (.nx A2) := fun I0 H0 σ I H rl D f => h I0 H0 σ I H rl D fun σ' I' H' s r => f σ' I' H' s (l.rel r)
theorem sm_pre {st : List Stmt} {A1 : List C} {o : Out} (l : LeA A A1) (h : Sm X A1 st o) : Sm X A st o := fun I0 H0 σ I H rl D f => h I0 H0 σ I H (l.rel rl) D f

theorem lt_of_some {A : List C} {j : Nat} (h : A[j]?.isSome = true) : j < A.length := by
  by_cases hj : j < A.length
  · exact hj
  · rw [List.getElem?_eq_none (by omega)] at h; cases h
theorem s1_set (j : Nat) {c : C} {pos' : Pos} {A1 : List C} (hN : X.N.Nodup) (hi : X.N[j]? = some x) (hx : Loc X.env.scope x) (he : Ev X A e c) (hj : A[j]?.isSome = true) (hA : A.set j c = A1) (hs : swapsWith e (some (.Name x pos')) pos.line X.env = pure false := by rfl)
    (hf : X.fn x = true ∨ X.env.scope.names.lookup x = some .local := by first | exact .inl rfl | exact .inr rfl | assumption) : S1 X A (.Assign [.Name x pos'] e pos) (.nx A1) := fun I0 H0 σ I H rl D f => by
  subst hA
  exact ws_of (ps_set hN hi hx wx_pe hs hf) (he I0 H0 σ I H rl _ fun v I1 H1 g hv => f _ I1 H1 g.ii (rel_put rl g hv (lt_of_some hj)))
theorem s1_ret {c : C} (he : Ev X A e c) : S1 X A (.Return (some e) pos) (.rt c) := fun I0 H0 σ I H rl D f =>
  ws_of (ps_ret wx_pe) (he I0 H0 σ I H rl _ fun v I1 H1 g hv => f v I1 H1 g.ii (rl.gr.trans g) (hv.back rl.gr.hh))
/-- return of the def's own list -/
theorem s1_retO (j : Nat) {ob : Ob} (hN : X.N[j]? = some x) (hA : A[j]? = some (.own ob)) (hv : Vis X.env.scope x) (hd : (x == ("__debug__" : Str)) = false := by decide) (hcd : (x == ("__classdict__" : Str)) = false := by decide) :
    S1 X A (.Return (some (.Name x p)) pos) (.rt (.own ob)) := fun I0 H0 σ I H rl D f => by
  obtain ⟨q, o, e, n0, n, ho, hb⟩ := rl.cell j _ hA
  exact ws_of (ps_ret (pe_var hN hv hd hcd)) ⟨.ref q, e, f _ I H (Same.refl _) rl.gr ⟨q, o, rfl, n0, n, ho, hb⟩⟩
theorem s1_if {v : Bool} {s1 s2 : List Stmt} {o : Out} (hc : Et X A a v) (h1 : v = true → Sm X A s1 o) (h2 : v = false → Sm X A s2 o) : S1 X A (.If a s1 s2 pos) o := fun I0 H0 σ I H rl D f =>
  ws_of (ps_if wt_pe wss_pss wss_pss) (hc I0 H0 σ I H rl _ fun I1 H1 g => by
    cases v with
    | true => exact iteT (h1 rfl I0 H0 σ I1 H1 (rl.grow g) D (f.same g.ii))
    | false => exact iteF (h2 rfl I0 H0 σ I1 H1 (rl.grow g) D (f.same g.ii)))
/-- xs.append(e), xs the def's own list -/
theorem s1_append (j : Nat) {ds : List PyData} {d : PyData} {A1 : List C} {p3 p4 : Pos} (hN : X.N[j]? = some x) (hA : A[j]? = some (.own (.lst ds))) (hv : Vis X.env.scope x) (he : Ev X A e (.dat d)) (hz : ds.length < sizeLine) (hA1 : A.set j (.own (.lst (ds ++ [d]))) = A1)
    (hd : (x == ("__debug__" : Str)) = false := by decide) (hcd : (x == ("__classdict__" : Str)) = false := by decide) (hs : starEach (e :: []) X.env = (false, eval e X.env) :: starEach [] X.env := by rfl) (hpl : ((backTo p3 (starEach (e :: []) X.env)).all (fun x => !x.1) && (backToKw p3 (keywordEach [] X.env)).all (fun x => x.1.isSome) && decide (([e] : List Expr).length + ([] : List Keyword).length + (if ([] : List Keyword).isEmpty then 0 else 1) < 30)) = true := by rfl) (hline : (p2.endLine == p3.line) = true := by rfl)
    (hsw : swapsWith (.Call (.Attribute (.Name x p) "append" p2) [e] [] p3) none p4.line X.env = pure false := by rfl) : S1 X A (.Expr (.Call (.Attribute (.Name x p) "append" p2) [e] [] p3) p4) (.nx A1) := fun I0 H0 σ I H rl D f => by
  subst hA1
  have hj : j < A.length := by
    by_cases hj : j < A.length
    · exact hj
    · rw [List.getElem?_eq_none (by omega)] at hA; cases hA
  obtain ⟨q, o, e1, n0, n, ho, hb⟩ := rl.cell j _ hA
  obtain ⟨vs, rfl, ha⟩ := obAt_lst hb
  refine ws_of (ps_expr (pe_bm PySem.F.plainAttrs_list PySem.F.slot_list_append PySem.F.type_list_append mt_append (pe_var hN hv hd hcd) (pa_cons wx_pe pa_nil hs) (hfew := hpl) (hline := hline) (hs := hs) (hplain := rfl)) hsw) ⟨.ref q, e1, .inl ⟨rfl, _, .inl (.inl ho)⟩, ?_⟩
  refine he I0 H0 σ I H rl _ fun v I1 H1 g hv1 => ⟨q, vs, v, rfl, rfl, g.hh _ _ ho, by rw [dpAll_len ha]; exact hz, ?_⟩
  have n1 := g.nw q _ ho n
  have r1 := rl.grow g
  refine f σ I1 _ g.ii ⟨r1.gr.mut n0 n1, by rw [List.length_set]; exact r1.len, fun i c hc => ?_, fun i i' r ne o1 o2 h => ?_⟩
  · by_cases hi : j = i
    · subst hi
      rw [List.getElem?_set_self hj] at hc
      cases hc
      exact ⟨q, _, e1, n0, n1, upd_same, dpAll_append (dpAll_mono g.ii ha) (dpAll_one hv1)⟩
    · rw [List.getElem?_set_ne hi] at hc
      have z := r1.cell i c hc
      cases c with
      | un => trivial
      | rf a => exact z
      | tpo ds es => trivial
      | kn a d => exact z
      | dat d => exact z
      | own b =>
        obtain ⟨q2, o2, e2, m0, m, ho2, hb2⟩ := z
        refine ⟨q2, o2, e2, m0, m, ?_, hb2⟩
        have hne : q2 ≠ q := fun z => by
          subst z
          exact rl.apart j i q2 hi (by rw [hA]; trivial) (by rw [hc]; trivial) e1 e2
        rw [upd_ne hne]
        exact ho2
  · have key : ∀ i : Nat, isOwn (A.set j (.own (.lst (ds ++ [d]))))[i]? → isOwn A[i]? := fun i o => by
      by_cases hi : j = i
      · subst hi; rw [hA]; trivial
      · rw [List.getElem?_set_ne hi] at o; exact o
    exact r1.apart i i' r ne (key i o1) (key i' o2) h
/-- a name of the def's own list is from now on data -/
theorem sm_frz (j : Nat) {ds : List PyData} {st : List Stmt} {o : Out} (hA : A[j]? = some (.own (.lst ds))) (h : Sm X (A.set j (.dat (.list ds))) st o) : Sm X A st o := fun I0 H0 σ I H rl D f => by
  have hj : j < A.length := by
    by_cases hj : j < A.length
    · exact hj
    · rw [List.getElem?_eq_none (by omega)] at hA; cases hA
  obtain ⟨q, o', e1, n0, n, ho, hb⟩ := rl.cell j _ hA
  obtain ⟨vs, rfl, ha⟩ := obAt_lst hb
  have s2 : Same I (upd I q (.lst vs)) := fun b u z => by rw [upd_ne (ne_of_none z n)]; exact z
  refine h I0 H0 σ (upd I q (.lst vs)) H ⟨rl.gr.know n0 n ho, by rw [List.length_set]; exact rl.len, fun i c hc => ?_, fun i i' r ne o1 o2 hr => ?_⟩ D (f.same s2)
  · by_cases hi : j = i
    · subst hi
      rw [List.getElem?_set_self hj] at hc
      cases hc
      exact ⟨.ref q, e1, .lst (.inl (.inl upd_same)) (dpAll_mono s2 ha)⟩
    · rw [List.getElem?_set_ne hi] at hc
      have z := rl.cell i c hc
      cases c with
      | un => trivial
      | rf a => exact z
      | tpo ds es => trivial
      | kn a d => exact ⟨z.1, dp_mono s2 z.2⟩
      | dat d => obtain ⟨v, e2, hd⟩ := z; exact ⟨v, e2, dp_mono s2 hd⟩
      | own b =>
        obtain ⟨q2, o2, e2, m0, m, ho2, hb2⟩ := z
        have hne : q2 ≠ q := fun z => by
          subst z
          exact rl.apart j i q2 hi (by rw [hA]; trivial) (by rw [hc]; trivial) e1 e2
        exact ⟨q2, o2, e2, m0, by rw [upd_ne hne]; exact m, ho2, obAt_mono s2 hb2⟩
  · have key : ∀ i : Nat, isOwn (A.set j (.dat (.list ds)))[i]? → isOwn A[i]? := fun i o => by
      by_cases hi : j = i
      · subst hi; rw [hA]; trivial
      · rw [List.getElem?_set_ne hi] at o; exact o
    exact rl.apart i i' r ne (key i o1) (key i' o2) hr
end
end LR

set_option Elab.async false
set_option linter.all false
set_option maxRecDepth 100000
set_option maxHeartbeats 4000000
/-! The layer LR, part d: comprehensions, for, while, raise, the rule of a def. -/
namespace LR
open PySem PySem.Spec PyProof.Rows L2

section
variable {X : Cx} {e a b : Expr} {es : List Expr} {σ : L2.St} {H : Hp} {Q : VK} {A : List C} {pos p p2 : Pos} {x : Str}

/-- what a target does: U says how the state of the names becomes -/
structure TgOk (K : PySem.W.Frag) (g : TG) (U : List C → PyData → List C → Prop) : Prop where
  run : ∀ I0 H0 σ I H A d A' v, U A d A' → Rel K I0 H0 A σ I H → Dp K I v d → ∀ Q : L2.St → Hp → Prop, (∀ σ', Rel K I0 H0 A' σ' I H → Q σ' H) → g v σ H Q
def uName (j : Nat) : List C → PyData → List C → Prop := fun A d A' => A[j]?.isSome = true ∧ A' = A.set j (.dat d)
def uNames : List Nat → List C → List PyData → List C → Prop
  | [], A, ds, A' => ds = [] ∧ A' = A
  | j :: js, A, ds, A' => ∃ d r, ds = d :: r ∧ A[j]?.isSome = true ∧ uNames js (A.set j (.dat d)) r A'
def uTup (js : List Nat) : List C → PyData → List C → Prop := fun A d A' => ∃ ds, d = .tuple ds ∧ uNames js A ds A'
theorem tg_name {K : PySem.W.Frag} {j : Nat} : TgOk K (gName j) (uName j) := ⟨fun I0 H0 σ I H A d A' v ⟨hj, e⟩ r hd Q q => by subst e; exact q _ (rel_set r hd (lt_of_some hj))⟩
def gNames : List Nat → TGs
  | [] => gNil
  | j :: js => gCons (gName j) (gNames js)
theorem tg_names {K : PySem.W.Frag} : ∀ {js : List Nat} {I0 H0 : Hp} {σ : L2.St} {I H : Hp} {A A' : List C} {ds : List PyData} {vs : List V}, uNames js A ds A' → Rel K I0 H0 A σ I H → DpAll K I vs ds → ∀ Q : L2.St → Hp → Prop, (∀ σ', Rel K I0 H0 A' σ' I H → Q σ' H) → gNames js vs σ H Q
  | [], _, _, _, _, _, _, _, _, _, ⟨e1, e2⟩, r, hv, Q, q => by subst e1 e2; cases hv; exact ⟨rfl, q _ r⟩
  | j :: js, I0, H0, σ, I, H, A, A', ds, vs, ⟨d, rd, e1, hj, u⟩, r, hv, Q, q => by
    subst e1
    cases hv with
    | cons h1 h2 => exact ⟨_, _, rfl, tg_names u (rel_set r h1 (lt_of_some hj)) h2 Q q⟩
theorem uNames_len : ∀ {js : List Nat} {A A' : List C} {ds : List PyData}, uNames js A ds A' → ds.length = js.length
  | [], _, _, _, ⟨e, _⟩ => by subst e; rfl
  | j :: js, _, _, _, ⟨d, r, e, _, u⟩ => by subst e; rw [List.length_cons, List.length_cons, uNames_len u]
theorem tg_tup {K : PySem.W.Frag} {js : List Nat} : TgOk K (gTup K js.length (gNames js)) (uTup js) := ⟨fun I0 H0 σ I H A d A' v ⟨ds, e, u⟩ r hd Q q => by
  subst e
  obtain ⟨p, vs, rfl, hs, ha⟩ := dp_tup hd
  exact ⟨p, vs, rfl, same_t r.ih hs, by rw [dpAll_len ha, uNames_len u], tg_names u r ha Q q⟩⟩

/-! ### for -/
inductive ExitOf : Out → Out → Prop
  | rt (c : C) : ExitOf (.rt c) (.rt c)
  | ex (x : Str) (A : List C) : ExitOf (.ex x A) (.ex x A)
  | bk (A : List C) : ExitOf (.bk A) (.nx A)
theorem s1_for {tg : Expr} {body : List Stmt} {src : List PyData} {g : TG} {U : List C → PyData → List C → Prop} {o : Out} (hp : PassesOwn (model X.prog X.w) X.A X.env X.xe) (hc : X.calm = true) (hi : EvI X A tg e src) (hg : PG X tg g) (ht : TgOk X.K g U)
    (inv : Nat → List C) (n : Nat) (hn : n ≤ src.length) (h0 : LeA A (inv 0))
    (hb : ∀ (i : Nat) (d : PyData), i < n → src[i]? = some d → ∃ A1, U (inv i) d A1 ∧ Sm X A1 body (.nx (inv (i + 1))))
    (he : (n = src.length ∧ o = .nx (inv n)) ∨ ∃ d A1 o', src[n]? = some d ∧ U (inv n) d A1 ∧ Sm X A1 body o' ∧ ExitOf o' o) (hs : ∀ x, foldedSetIterable e X.env x = pure x := by intro _; rfl) : S1 X A (.For tg e body [] pos) o := fun I0 H0 σ I H rl D f => by
  obtain ⟨wi, hpi, hwi⟩ := hi
  refine ws_of (ps_for hp hc hpi hg wss_pss hs) (hwi I0 H0 σ I H rl _ fun J I1 H1 g1 hJ => ?_)
  have f1 := f.same g1.ii
  refine ⟨fun i m σ' H' => m = n - i ∧ i ≤ n ∧ ∃ I', Same I1 I' ∧ Rel X.K I0 H0 (inv i) σ' I' H', ⟨n, by simp, Nat.zero_le _, I1, Same.refl _, h0.rel (rl.grow g1)⟩, ?_⟩
  rintro i m σ' H' ⟨rfl, hin, I', s1, r'⟩
  by_cases hlt : i < n
  · have hd : src[i]? = some (src[i]'(by omega)) := List.getElem?_eq_getElem _
    obtain ⟨go, yl⟩ := hJ.1 i _ hd I' H' s1 r'.ih
    refine .inr ⟨go, fun σ2 H2 => ∃ I2, Same I1 I2 ∧ Rel X.K I0 H0 (inv (i + 1)) σ2 I2 H2, fun σ2 H2 ⟨I2, s2, r2⟩ => ⟨n - (i + 1), by omega, rfl, hlt, I2, s2, r2⟩, fun v H3 hy => ?_⟩
    obtain ⟨I3, g3, hv⟩ := yl v H3 hy
    obtain ⟨A1, hU, hS⟩ := hb i _ hlt hd
    refine ht.run I0 H0 σ' I3 H3 _ _ A1 v hU (r'.grow g3) hv _ fun σ2 r2 => ?_
    have q := hS I0 H0 σ2 I3 H3 r2 { D with nx := fun σ2 H2 => ∃ I2, Same I1 I2 ∧ Rel X.K I0 H0 (inv (i + 1)) σ2 I2 H2, ct := fun σ2 H2 => ∃ I2, Same I1 I2 ∧ Rel X.K I0 H0 (inv (i + 1)) σ2 I2 H2, bk := D.nx }
      fun σ4 I4 H4 s4 r4 => ⟨I4, (s1.trans g3.ii).trans s4, r4⟩
    exact q
  · have ein : i = n := by omega
    subst ein
    rcases he with ⟨e1, e2⟩ | ⟨d, A1, o', hd, hU, hS, hx⟩
    · subst e2
      refine .inl ⟨?_, ?_⟩
      · rw [e1]; exact hJ.2 I' H' s1 r'.ih
      · exact f1 σ' I' H' s1 r'
    · obtain ⟨go, yl⟩ := hJ.1 i _ hd I' H' s1 r'.ih
      refine .inr ⟨go, fun _ _ => False, fun _ _ h => h.elim, fun v H3 hy => ?_⟩
      obtain ⟨I3, g3, hv⟩ := yl v H3 hy
      refine ht.run I0 H0 σ' I3 H3 _ _ A1 v hU (r'.grow g3) hv _ fun σ2 r2 => ?_
      refine hS I0 H0 σ2 I3 H3 r2 { D with nx := fun _ _ => False, ct := fun _ _ => False, bk := D.nx } ?_
      have f3 := f1.same (s1.trans g3.ii)
      cases hx with
      | rt c => exact f3
      | ex x A => exact f3
      | bk A => exact f3
/-! ### while -/
theorem s1_while {c : Expr} {body : List Stmt} {o : Out} (hp : PassesOwn (model X.prog X.w) X.A X.env X.xe) (inv : Nat → List C) (n : Nat) (h0 : LeA A (inv 0))
    (hb : ∀ i, i < n → Et X (inv i) c true ∧ Sm X (inv i) body (.nx (inv (i + 1))))
    (he : (Et X (inv n) c false ∧ o = .nx (inv n)) ∨ ∃ o', Et X (inv n) c true ∧ Sm X (inv n) body o' ∧ ExitOf o' o) : S1 X A (.While c body [] pos) o := fun I0 H0 σ I H rl D f => by
  refine ws_of (ps_while hp wt_pe wss_pss) ?_
  refine ⟨fun m σ' H' => ∃ i, m = n - i ∧ i ≤ n ∧ ∃ I', Same I I' ∧ Rel X.K I0 H0 (inv i) σ' I' H', ⟨n, 0, by simp, Nat.zero_le _, I, Same.refl _, h0.rel rl⟩, ?_⟩
  rintro m σ' H' ⟨i, rfl, hin, I', s1, r'⟩
  by_cases hlt : i < n
  · obtain ⟨hc, hS⟩ := hb i hlt
    refine hc I0 H0 σ' I' H' r' _ fun I2 H2 g2 => ?_
    refine iteT ⟨fun σ2 H2 => ∃ I2, Same I I2 ∧ Rel X.K I0 H0 (inv (i + 1)) σ2 I2 H2, fun σ2 H2 ⟨I2, s2, r2⟩ => ⟨n - (i + 1), by omega, i + 1, rfl, hlt, I2, s2, r2⟩, ?_⟩
    exact hS I0 H0 σ' I2 H2 (r'.grow g2) _ fun σ4 I4 H4 s4 r4 => ⟨I4, (s1.trans g2.ii).trans s4, r4⟩
  · have ein : i = n := by omega
    subst ein
    have f1 := f.same s1
    rcases he with ⟨hc, e2⟩ | ⟨o', hc, hS, hx⟩
    · subst e2
      exact hc I0 H0 σ' I' H' r' _ fun I2 H2 g2 => iteF (f1 σ' I2 H2 g2.ii (r'.grow g2))
    · refine hc I0 H0 σ' I' H' r' _ fun I2 H2 g2 => iteT ⟨fun _ _ => False, fun _ _ h => h.elim, ?_⟩
      refine hS I0 H0 σ' I2 H2 (r'.grow g2) _ ?_
      have f3 := f1.same g2.ii
      cases hx with
      | rt c => exact f3
      | ex x A => exact f3
      | bk A => exact f3

/-! ### list comprehensions -/
def blkOf (X : Cx) (scope : Scope) (s : Shared) (H : Hp) (C : Addr) (cl : List (Str × Addr)) (fp : List Addr) : Cx := X.blk s H scope (compEnvC scope cl C X.env) fp
/-- .. in every block of it -/
def EvB (X : Cx) (scope : Scope) (A : List C) (e : Expr) (d : PyData) : Prop := ∀ s H C cl fp, Ev (X.blk s H scope (compEnvC scope cl C X.env) fp) A e (.dat d)
def EtB (X : Cx) (scope : Scope) (A : List C) (ifs : List Expr) (v : Bool) : Prop := match ifs with
  | [] => v = true
  | [c] => ∀ s H C cl fp, Et (X.blk s H scope (compEnvC scope cl C X.env) fp) A c v
  | _ => False
theorem rel_out {K : PySem.W.Frag} {I0 H0 I H : Hp} {A : List C} {σ : L2.St} {D : Addr} {o : HO} (r : Rel K I0 H0 A σ I H) (n0 : H0 D = none) (n : I D = none) (far : ∀ i : Nat, isOwn A[i]? → σ[i]? ≠ some (some (.ref D))) : Rel K I0 H0 A σ I (upd H D o) where
  gr := r.gr.mut n0 n
  len := r.len
  cell := fun i c h => by
    have z := r.cell i c h
    cases c with
    | un => trivial
    | rf a => exact z
    | tpo ds es => trivial
    | kn a d => exact z
    | dat d => exact z
    | own b =>
      obtain ⟨q, o2, e, m0, m, ho, hb⟩ := z
      have hne : q ≠ D := fun z => by
        subst z
        exact far i (by rw [h]; trivial) e
      exact ⟨q, o2, e, m0, m, by rw [upd_ne hne]; exact ho, hb⟩
  apart := r.apart
def wipeA (A : List C) : List Nat → List C
  | [] => A
  | v :: vs => (wipeA A vs).set v .un
theorem rel_wipe {K : PySem.W.Frag} {I0 H0 I H : Hp} {A : List C} {σ : L2.St} (r : Rel K I0 H0 A σ I H) : ∀ vs : List Nat, Rel K I0 H0 (wipeA A vs) (wipe σ vs) I H
  | [] => r
  | v :: vs => rel_un (rel_wipe r vs)
theorem isOwn_wipe {A : List C} {i : Nat} : ∀ {vs : List Nat}, isOwn (wipeA A vs)[i]? → isOwn A[i]? ∧ i ∉ vs
  | [], h => ⟨h, by simp⟩
  | v :: vs, h => by
    unfold wipeA at h
    by_cases hv : v = i
    · subst hv
      by_cases hl : v < (wipeA A vs).length
      · rw [List.getElem?_set_self hl] at h; exact h.elim
      · rw [List.getElem?_eq_none (by simpa using hl)] at h; exact h.elim
    · rw [List.getElem?_set_ne hv] at h
      obtain ⟨h1, h2⟩ := isOwn_wipe (vs := vs) h
      exact ⟨h1, by simp [h2]; exact fun z => hv z.symm⟩
/-- the block's target stores to the block's own names alone -/
structure TgW (g : TG) (vs : List Nat) : Prop where
  run : ∀ v σ H Q, g v (wipe σ vs) H Q → g v (wipe σ vs) H fun σ2 H2 => wipe σ2 vs = wipe σ vs ∧ Q σ2 H2
theorem set_set_none {σ : L2.St} {j : Nat} {x : Option V} : ((σ.set j none).set j x).set j none = σ.set j none := by rw [List.set_set, List.set_set]
theorem tgw_name {j : Nat} : TgW (gName j) [j] := ⟨fun v σ H Q q => ⟨by
  show ((σ.set j none).set j (some v)).set j none = σ.set j none
  exact set_set_none, q⟩⟩
theorem tgw_two {K : PySem.W.Frag} {i j : Nat} (hij : i ≠ j) : TgW (gTup K [i, j].length (gNames [i, j])) [i, j] := ⟨fun v σ H Q q => by
  obtain ⟨a, xs, e1, hs, hl, v1, r1, e2, v2, r2, e3, e4, q⟩ := q
  refine ⟨a, xs, e1, hs, hl, v1, r1, e2, v2, r2, e3, e4, (by
  show (List.set (List.set ((List.set (List.set (List.set (List.set σ j none) i none) i (some v1)) j (some v2))) j none) i none) = List.set (List.set σ j none) i none
  apply List.ext_getElem?
  intro k
  simp only [List.getElem?_set, List.length_set]
  by_cases h1 : i = k
  · simp [h1]
  · by_cases h2 : j = k
    · simp [h1, h2]
    · simp [h1, h2]), q⟩⟩
theorem lc_both {α : Type} {elt tg iter : Expr} {ifs : List Expr} {scope : Scope} {own : List (Str × Nat)} {g : TG} {U : List C → PyData → List C → Prop} {src : List PyData} (xs : List α) (enc : α → PyData) (pr : α → Bool) (f : α → PyData)
    (hc : X.calm = true) (hN : X.N.Nodup) (hi : EvI X A tg iter src) (hsrc : src = xs.map enc) (ok : BlkOk X.N X.env.scope scope own)
    (hg : ∀ (s : Shared) (H : Hp) (C : Addr) (cl : List (Str × Addr)) (fp : List Addr), PG (X.blk s H scope (compEnvC scope cl C X.env) fp) tg g) (ht : TgOk X.K g U) (hw : TgW g (own.map (·.2)))
    (hl : ifs.length ≤ 1) (hz : xs.length < sizeLine)
    (hb : ∀ x, x ∈ xs → ∃ A1, U (wipeA A (own.map (·.2))) (enc x) A1 ∧ EtB X scope A1 ifs (pr x) ∧ (pr x = true → EvB X scope A1 elt (f x)))
    (hs : ∀ x, foldedSetIterable iter X.env x = pure x := by intro _; rfl) :
    ∃ t : TE, PE X (.ListComp elt [⟨tg, iter, ifs, 0⟩] scope pos) t ∧ (∀ (i : Nat) (y : Str) (py spos : Pos), X.N[i]? = some y → X.env.scope.names.lookup y = some .local → swapsWith (.ListComp elt [⟨tg, iter, ifs, 0⟩] scope pos) (some (.Name y py)) spos.line X.env = pure true →
      PS X (.Assign [.Name y py] (.ListComp elt [⟨tg, iter, ifs, 0⟩] scope pos) spos) (tAsg t (gName i))) ∧ ∀ I0 H0 σ I H, Rel X.K I0 H0 A σ I H → ∀ Q : VK, (∀ v I' H', Grow I H I' H' → VR X.K H I' H' v (.own (.lst ((xs.filter pr).map f))) → Q v H') → t σ H Q := by
  subst hsrc
  obtain ⟨wi, hpi, hwi⟩ := hi
  let te : TE := fun σ H Q => ∀ s H' C cl fp, Wx (X.blk s H' scope (compEnvC scope cl C X.env) fp) elt σ H Q
  let tt : TT := match ifs with
    | [] => tYes
    | c :: _ => fun σ H Q => ∀ s H' C cl fp, Wt (X.blk s H' scope (compEnvC scope cl C X.env) fp) c σ H Q
  have htt : ∀ (s : Shared) (H : Hp) (C : Addr) (cl : List (Str × Addr)) (fp : List Addr), PTs (X.blk s H scope (compEnvC scope cl C X.env) fp) ifs tt := fun s H C cl fp => by
    cases ifs with
    | nil => exact pts_nil
    | cons c r =>
      cases r with
      | nil => exact pts_one ⟨fun pins s' σ H' Q I h => h s H C cl fp pins s' I⟩
      | cons c2 r => simp at hl
  refine ⟨_, pe_lc hc hN hpi ok hg htt (te := te) (fun s H C cl fp => ⟨fun pins s' σ H' Q I h => h s H C cl fp pins s' I⟩) hs, fun i y py spos h1 h2 h3 => ps_setLc hc hN h1 h2 h3 hpi ok hg htt (te := te) (fun s H C cl fp => ⟨fun pins s' σ H' Q I h => h s H C cl fp pins s' I⟩) hs, fun I0 H0 σ I H rl Q q => ?_⟩
  refine hwi I0 H0 σ I H rl _ fun J I1 H1 g1 hJ D hD => ?_
  have r1 := rl.grow g1
  have n0 : H0 D = none := r1.gr.hh.free hD
  have far : ∀ i : Nat, isOwn (wipeA A (own.map (·.2)))[i]? → (wipe σ (own.map (·.2)))[i]? ≠ some (some (.ref D)) := fun i o => by
    obtain ⟨o1, o2⟩ := isOwn_wipe o
    rw [wipe_out o2]
    exact r1.far hD i o1
  refine ⟨fun i m H' => m = xs.length - i ∧ i ≤ xs.length ∧ ∃ I' acc, Same I1 I' ∧ Grow I H I' H' ∧ I' D = none ∧ H' D = some (.lst acc) ∧ DpAll X.K I' acc (((xs.take i).filter pr).map f) ∧ Rel X.K I0 H0 (wipeA A (own.map (·.2))) (wipe σ (own.map (·.2))) I' H',
    ⟨xs.length, by simp, Nat.zero_le _, I1, [], Same.refl _, g1.mut (g1.hh.free hD) (g1.ih.free hD), g1.ih.free hD, upd_same, .nil, rel_out (rel_wipe r1 _) n0 (g1.ih.free hD) far⟩, ?_⟩
  rintro i m H' ⟨rfl, hin, I', acc, s1, gg, nD, hacc, hda, r'⟩
  by_cases hlt : i < xs.length
  · have hx : xs[i]? = some xs[i] := List.getElem?_eq_getElem _
    have hd : (xs.map enc)[i]? = some (enc xs[i]) := by rw [List.getElem?_map, hx]; rfl
    obtain ⟨go, yl⟩ := hJ.1 i _ hd I' H' s1 r'.ih
    refine .inr ⟨go, fun H2 => ∃ I2 acc, Same I1 I2 ∧ Grow I H I2 H2 ∧ I2 D = none ∧ H2 D = some (.lst acc) ∧ DpAll X.K I2 acc (((xs.take (i + 1)).filter pr).map f) ∧ Rel X.K I0 H0 (wipeA A (own.map (·.2))) (wipe σ (own.map (·.2))) I2 H2,
      fun H2 ⟨I2, acc2, z⟩ => ⟨xs.length - (i + 1), by omega, rfl, hlt, I2, acc2, z⟩, fun v H3 hy => ?_⟩
    obtain ⟨I3, g3, hv⟩ := yl v H3 hy
    obtain ⟨A1, hU, hT, hE⟩ := hb xs[i] (List.getElem_mem _)
    have r3 := r'.grow g3
    refine hw.run v σ H3 _ (ht.run I0 H0 _ I3 H3 _ _ A1 v hU r3 hv _ fun σ2 r2 => ?_)
    have tk : ((xs.take (i + 1)).filter pr).map f = ((xs.take i).filter pr).map f ++ (if pr xs[i] then [f xs[i]] else []) := by
      rw [List.take_add_one, hx, List.filter_append, List.map_append]
      congr 1
      cases hp : pr xs[i] <;> simp [hp]
    have nD3 := g3.nw D _ hacc nD
    have fin : ∀ I4 H4, Grow I3 H3 I4 H4 → (if pr xs[i] = true then te σ2 H4 fun y H5 => ∃ acc, H5 D = some (.lst acc) ∧ acc.length < sizeLine ∧ ∃ I2 acc', Same I1 I2 ∧ Grow I H I2 (upd H5 D (.lst (acc ++ [y]))) ∧ I2 D = none ∧ (upd H5 D (.lst (acc ++ [y]))) D = some (.lst acc') ∧ DpAll X.K I2 acc' (((xs.take (i + 1)).filter pr).map f) ∧ Rel X.K I0 H0 (wipeA A (own.map (·.2))) (wipe σ (own.map (·.2))) I2 (upd H5 D (.lst (acc ++ [y])))
        else ∃ I2 acc, Same I1 I2 ∧ Grow I H I2 H4 ∧ I2 D = none ∧ H4 D = some (.lst acc) ∧ DpAll X.K I2 acc (((xs.take (i + 1)).filter pr).map f) ∧ Rel X.K I0 H0 (wipeA A (own.map (·.2))) (wipe σ (own.map (·.2))) I2 H4) := fun I4 H4 g4 => by
      have nD4 := g4.nw D _ (g3.hh _ _ hacc) nD3
      cases hp : pr xs[i] with
      | true =>
        rw [if_pos rfl]
        intro s5 H5' C5 cl5 fp5
        refine hE hp s5 H5' C5 cl5 fp5 I0 H0 σ2 I4 H4 (r2.grow g4) _ fun y I5 H5 g5 hy => ?_
        have nD5 := g5.nw D _ (g4.hh _ _ (g3.hh _ _ hacc)) nD4
        have g35 := (g3.trans g4).trans g5
        refine ⟨acc, g35.hh _ _ hacc, ?_, I5, acc ++ [y], s1.trans g35.ii, (gg.trans g35).mut (g1.hh.free hD) nD5, nD5, upd_same, ?_, ?_⟩
        · have e1 := dpAll_len hda
          rw [List.length_map] at e1
          have e2 := List.length_filter_le pr (xs.take i)
          rw [List.length_take] at e2
          omega
        · rw [tk, hp, if_pos rfl]
          exact dpAll_append (dpAll_mono g35.ii hda) (dpAll_one hy)
        · exact rel_out (r'.grow g35) n0 nD5 far
      | false =>
        rw [if_neg Bool.false_ne_true]
        have g34 := g3.trans g4
        refine ⟨I4, acc, s1.trans g34.ii, gg.trans g34, nD4, g34.hh _ _ hacc, ?_, r'.grow g34⟩
        rw [tk, hp, if_neg Bool.false_ne_true, List.append_nil]
        exact dpAll_mono g34.ii hda
    cases ifs with
    | nil =>
      have hT' : pr xs[i] = true := by have hT2 := hT; simp only [EtB] at hT2; exact hT2
      have z := fin I3 H3 (.refl r2.ih)
      rw [if_pos hT'] at z
      exact (show ∀ (k : Bool → Hp → Prop), k true H3 → tt σ2 H3 k from fun k h => h) _ (by
        dsimp only
        rw [if_pos rfl]
        exact z)
    | cons c r =>
      cases r with
      | cons c2 r => simp at hl
      | nil =>
        intro s5 H5' C5 cl5 fp5
        exact hT s5 H5' C5 cl5 fp5 I0 H0 σ2 I3 H3 r2 _ fun I4 H4 g4 => fin I4 H4 g4
  · have ein : i = xs.length := by omega
    subst ein
    refine .inl ⟨?_, ?_⟩
    · have z := hJ.2 I' H' s1 r'.ih
      rw [List.length_map] at z
      exact z
    · rw [List.take_length] at hda
      exact q _ I' H' gg ⟨D, .lst acc, rfl, g1.hh.free hD, nD, hacc, hda⟩
theorem ev_lc {α : Type} {elt tg iter : Expr} {ifs : List Expr} {scope : Scope} {own : List (Str × Nat)} {g : TG} {U : List C → PyData → List C → Prop} {src : List PyData} (xs : List α) (enc : α → PyData) (pr : α → Bool) (f : α → PyData)
    (hc : X.calm = true) (hN : X.N.Nodup) (hi : EvI X A tg iter src) (hsrc : src = xs.map enc) (ok : BlkOk X.N X.env.scope scope own)
    (hg : ∀ (s : Shared) (H : Hp) (C : Addr) (cl : List (Str × Addr)) (fp : List Addr), PG (X.blk s H scope (compEnvC scope cl C X.env) fp) tg g) (ht : TgOk X.K g U) (hw : TgW g (own.map (·.2)))
    (hl : ifs.length ≤ 1) (hz : xs.length < sizeLine)
    (hb : ∀ x, x ∈ xs → ∃ A1, U (wipeA A (own.map (·.2))) (enc x) A1 ∧ EtB X scope A1 ifs (pr x) ∧ (pr x = true → EvB X scope A1 elt (f x)))
    (hs : ∀ x, foldedSetIterable iter X.env x = pure x := by intro _; rfl) : Ev X A (.ListComp elt [⟨tg, iter, ifs, 0⟩] scope pos) (.own (.lst ((xs.filter pr).map f))) := fun I0 H0 σ I H rl Q q => by
  obtain ⟨t, hp, _, h⟩ := lc_both xs enc pr f hc hN hi hsrc ok hg ht hw hl hz hb hs
  exact wx_of hp (h I0 H0 σ I H rl Q q)
theorem s1_setLc {α : Type} {elt tg iter : Expr} {ifs : List Expr} {scope : Scope} {own : List (Str × Nat)} {g : TG} {U : List C → PyData → List C → Prop} {src : List PyData} (xs : List α) (enc : α → PyData) (pr : α → Bool) (f : α → PyData)
    (hc : X.calm = true) (hN : X.N.Nodup) (hi : EvI X A tg iter src) (hsrc : src = xs.map enc) (ok : BlkOk X.N X.env.scope scope own)
    (hg : ∀ (s : Shared) (H : Hp) (C : Addr) (cl : List (Str × Addr)) (fp : List Addr), PG (X.blk s H scope (compEnvC scope cl C X.env) fp) tg g) (ht : TgOk X.K g U) (hw : TgW g (own.map (·.2)))
    (hl : ifs.length ≤ 1) (hz : xs.length < sizeLine)
    (hb : ∀ x, x ∈ xs → ∃ A1, U (wipeA A (own.map (·.2))) (enc x) A1 ∧ EtB X scope A1 ifs (pr x) ∧ (pr x = true → EvB X scope A1 elt (f x)))
    (hs : ∀ x, foldedSetIterable iter X.env x = pure x := by intro _; rfl)
    {i : Nat} {y : Str} {py spos : Pos} (h1 : X.N[i]? = some y) (h2 : X.env.scope.names.lookup y = some .local) (h3 : swapsWith (.ListComp elt [⟨tg, iter, ifs, 0⟩] scope pos) (some (.Name y py)) spos.line X.env = pure true) (hj : A[i]?.isSome = true) :
    S1 X A (.Assign [.Name y py] (.ListComp elt [⟨tg, iter, ifs, 0⟩] scope pos) spos) (.nx (A.set i (.own (.lst ((xs.filter pr).map f))))) := fun I0 H0 σ I H rl D q => by
  obtain ⟨t, _, hp, h⟩ := lc_both (pos := pos) (elt := elt) xs enc pr f hc hN hi hsrc ok hg ht hw hl hz hb hs
  exact ws_of (hp i y py spos h1 h2 h3) (h I0 H0 σ I H rl _ fun v I1 H1 g hv => q _ I1 H1 g.ii (rel_put rl g hv (lt_of_some hj)))
end
end LR

set_option Elab.async false
set_option linter.all false
set_option maxRecDepth 100000
set_option maxHeartbeats 4000000
/-! The layer LR, part e: raise, the rule of a def. -/
namespace LR
open PySem PySem.Spec PyProof.Rows L2

/-- an exception class of the text, right under others of it or ValueError -/
structure XC (K : PySem.W.Frag) (mg : Str → Option Value) (x : Str) : Prop where
  ex : ∃ c, mg x = some (.ref c) ∧ PySem.W.excIn K c [.type "ValueError", .type "Exception", .type "BaseException", .type "object"] "ValueError.__new__" = true ∧ PySem.W.keepIn K (.ref c) = true ∧
    PySem.W.subIn K (.ref c) (.type "BaseException") = some true ∧ PySem.W.typeIn K (.ref c) = some (.type "type")
section
variable {X : Cx} {A : List C} {pos p p2 : Pos} {x m : Str}
theorem s1_raise {j} (hc : X.calm = true) (F : XC X.K X.mg x) (hg : Gl X x) (hs : X.stack = X.env :: X.outer) (hf : X.env.frame = some X.env.locals) (hdb : (x == ("__debug__" : Str)) = false := by decide) :
    S1 X A (.Raise (some (.Call (.Name x p) [.Constant (.str m) j p2] [] pos)) none pos') (.ex x A) := fun I0 H0 σ I H rl D f => by
  obtain ⟨W, tk, f⟩ := f
  obtain ⟨c, gC, q, kC, b, t⟩ := F.ex
  exact ws_of (ps_raise hc tk (pmk_own PySem.F.excBase_ValueError q gC kC (raises_own b t) hg hdb)) (f σ I H (Same.refl _) rl c gC)
end
/-- the state of the names at a def's begin -/
def A0 (N : List Str) (ds : List PyData) : List C := ds.map .dat ++ List.replicate (N.length - ds.length) .un
def SmR (X : Cx) (A : List C) (st : List Stmt) : Res → Prop
  | .ok c => Sm X A st (.rt c)
  | .ex x => ∃ A', Sm X A st (.ex x A')
section
variable {P : Program} {w : World} {K : PySem.W.Frag} {mg : Str → Option Value} {base : Heap}
theorem rel_start {N : List Str} {vs : List V} {ds : List PyData} {I H : Hp} (s : Same I H) (h : DpAll K I vs ds) : Rel K I H (A0 N ds) (start N vs) I H where
  gr := .refl s
  len := by unfold A0 L2.start; rw [List.length_append, List.length_append, List.length_map, List.length_map, List.length_replicate, List.length_replicate, dpAll_len h]
  cell := fun i c hc => by
    unfold A0 at hc
    by_cases hi : i < ds.length
    · rw [List.getElem?_append_left (by simpa using hi), List.getElem?_map, List.getElem?_eq_getElem hi] at hc
      cases hc
      obtain ⟨v, h1, h2⟩ := dpAll_get h (List.getElem?_eq_getElem hi)
      refine ⟨v, ?_, h2⟩
      unfold L2.start
      rw [List.getElem?_append_left (by rw [List.length_map, dpAll_len h]; exact hi), List.getElem?_map, h1]
      rfl
    · rw [List.getElem?_append_right (by simpa using hi), List.getElem?_replicate] at hc
      split at hc
      · cases hc; trivial
      · cases hc
  apart := fun i j p _ o _ _ => by
    unfold A0 at o
    by_cases hi : i < ds.length
    · rw [List.getElem?_append_left (by simpa using hi), List.getElem?_map, List.getElem?_eq_getElem hi] at o
      exact o.elim
    · rw [List.getElem?_append_right (by simpa using hi), List.getElem?_replicate] at o
      split at o
      · exact o.elim
      · exact o.elim
theorem fn_ok {x qual : Str} {st : Stmt} {f : Addr} {fd : FuncData} {N ps : List Str} {k : Nat} {R : List PyData → Res → Prop} (F : Fun K x qual st f fd) (hm : mg x = some (.ref f)) (b : Binds K fd ps []) (S : FnScope N ps (defScope st)) (hR : ∀ ds r, R ds r → ds.length = ps.length)
    (hbody : ∀ (cdv : Value) (A : Around) (outer : List Env) (s : Shared) (H : Hp) (E : XK), Room k (A.deeper (envOfC qual (defScope st) s.heap.objs.size f cdv)) → ∀ ds r, R ds r →
      SmR (cxOf (L2.CX P w) P w K mg base N qual (defScope st) f cdv A outer s H E) (A0 N ds) (defBody st) r) : Fn P w K mg base (k + 1) x ps R := by
  have hlk : ∃ (oc : Value) (od : Option Addr) (osl : Array (Option Value)), K.lookup f = some ⟨oc, od, .func fd, osl⟩ := by
    obtain ⟨oc, od, _, _, _, _, _, _, osl, _, h, _⟩ := F.ex
    exact ⟨oc, od, osl, h⟩
  refine ⟨f, fd, F.okX S (fun vs H Q E ⟨I, ds, r, _, hd, hr, _⟩ => by rw [dpAll_len hd, hR ds r hr]) (fun cdv A outer s H vs Q E hr ⟨I, ds, r, si, hd, h, q⟩ => ?_), hm, F.kp, b, hlk⟩
  refine ⟨_, wss_pss, ?_⟩
  have z := hbody cdv A outer s H E hr ds r h
  cases r with
  | ok c => exact z I H (start N vs) I H (rel_start si hd) _ fun v I' H' _ g hv => q v I' H' g hv
  | ex y =>
    obtain ⟨A', z⟩ := z
    exact z I H (start N vs) I H (rel_start si hd) _ ⟨_, takes_of rfl rfl rfl rfl, fun σ' I' H' _ r c hc => q I' H' r.gr c hc⟩
end
end LR

set_option Elab.async false
set_option linter.all false
set_option maxRecDepth 100000
set_option maxHeartbeats 4000000
/-! The layer LR, part f: rules by the shape of the data, encodings. -/
namespace LR
open PySem PySem.Spec PyProof.Rows L2

abbrev tI (xs : List Int) : PyData := .tuple (xs.map .int)
abbrev tT (t : List (List Int)) : PyData := .tuple (t.map tI)
abbrev lT (t : List (List Int)) : PyData := .list (t.map tI)
/-! ### shaped data, equality -/
theorem lay_ints : ∀ xs : List Int, PyData.canLayAll0 (xs.map PyData.int) = true
  | [] => by simp [PyData.canLayAll0]
  | x :: r => by rw [List.map_cons]; simp only [PyData.canLayAll0, PyData.canLay0, Bool.true_and]; exact lay_ints r
theorem dep_ints : ∀ xs : List Int, PyData.depthAll (xs.map PyData.int) ≤ 1
  | [] => by simp [PyData.depthAll]
  | x :: r => by rw [List.map_cons]; simp only [PyData.depthAll, PyData.depth]; have := dep_ints r; omega

inductive BinD : Operator → PyData → PyData → C → Prop
  | add {i j : Int} : BinD .Add (.int i) (.int j) (.dat (.int (i + j)))
  | sub {i j : Int} : BinD .Sub (.int i) (.int j) (.dat (.int (i - j)))
  | mul {i j : Int} (h : CMul i j) : BinD .Mult (.int i) (.int j) (.dat (.int (i * j)))
  | mod {i j : Int} (h : 0 < j) : BinD .Mod (.int i) (.int j) (.dat (.int (i % j)))
  | div {i j : Int} (h : 0 < j) (h2 : j < 1073741824) : BinD .FloorDiv (.int i) (.int j) (.dat (.int (i / j)))
  | pow {i j : Int} (h : CPow i j) : BinD .Pow (.int i) (.int j) (.dat (.int (i ^ j.toNat)))
  | cat {ds es : List PyData} (h : ds.length + es.length ≤ sizeLine) : BinD .Add (.tuple ds) (.tuple es) (.dat (.tuple (ds ++ es)))
  | catI {xs ys : List Int} (h : xs.length + ys.length ≤ sizeLine) : BinD .Add (tI xs) (tI ys) (.dat (tI (xs ++ ys)))
  | catI1 {xs : List Int} {i : Int} (h : xs.length + 1 ≤ sizeLine) : BinD .Add (tI xs) (.tuple [.int i]) (.dat (tI (xs ++ [i])))
  | cat1I {xs : List Int} {i : Int} (h : xs.length + 1 ≤ sizeLine) : BinD .Add (.tuple [.int i]) (tI xs) (.dat (tI (i :: xs)))
  | catT {xs ys : List (List Int)} (h : xs.length + ys.length ≤ sizeLine) : BinD .Add (tT xs) (tT ys) (.dat (tT (xs ++ ys)))
  | catT1 {xs : List (List Int)} {i : List Int} (h : xs.length + 1 ≤ sizeLine) : BinD .Add (tT xs) (.tuple [tI i]) (.dat (tT (xs ++ [i])))
  | str {x y : Str} (h : x.length + y.length ≤ sizeLine) : BinD .Add (.str x) (.str y) (.dat (.str (x ++ y)))
inductive CmpD : CmpOp → PyData → PyData → Bool → Prop
  | lt {i j : Int} : CmpD .Lt (.int i) (.int j) (decide (i < j))
  | le {i j : Int} : CmpD .LtE (.int i) (.int j) (decide (i ≤ j))
  | gt {i j : Int} : CmpD .Gt (.int i) (.int j) (decide (j < i))
  | ge {i j : Int} : CmpD .GtE (.int i) (.int j) (decide (j ≤ i))
  | eqI {i j : Int} : CmpD .Eq (.int i) (.int j) (decide (i = j))
  | neI {i j : Int} : CmpD .NotEq (.int i) (.int j) (!decide (i = j))
  | eqS {i j : Str} : CmpD .Eq (.str i) (.str j) (decide (i = j))
  | neS {i j : Str} : CmpD .NotEq (.str i) (.str j) (!decide (i = j))
inductive SeqD : PyData → Bool → List PyData → Prop
  | tup {ds : List PyData} : SeqD (.tuple ds) false ds
  | lst {ds : List PyData} : SeqD (.list ds) true ds
inductive IxD : List PyData → Int → PyData → Prop
  | nIn {xs : List Int} {i : Nat} (h2 : i < xs.length) : IxD (xs.map .int) (i : Int) (.int (xs.getD i 0))
  | nTn {xs : List (List Int)} {i : Nat} (h2 : i < xs.length) : IxD (xs.map tI) (i : Int) (tI (xs.getD i []))
  | nTTn {xs : List (List (List Int))} {i : Nat} (h2 : i < xs.length) : IxD (xs.map tT) (i : Int) (tT (xs.getD i []))
  | nTT {xs : List (List (List Int))} {i : Int} (h : 0 ≤ i) (h2 : i < xs.length) : IxD (xs.map tT) i (tT (xs.getD i.toNat []))
  | nI {xs : List Int} {i : Int} (h : 0 ≤ i) (h2 : i < xs.length) : IxD (xs.map .int) i (.int (xs.getD i.toNat 0))
  | nS {xs : List Str} {i : Int} (h : 0 ≤ i) (h2 : i < xs.length) : IxD (xs.map .str) i (.str (xs.getD i.toNat ⟨#[]⟩))
  | nT {xs : List (List Int)} {i : Int} (h : 0 ≤ i) (h2 : i < xs.length) : IxD (xs.map tI) i (tI (xs.getD i.toNat []))
  | nL2 {a b i : Int} (h : 0 ≤ i) (h2 : i < 2) : IxD [.int a, .int b] i (.int ([a, b].getD i.toNat 0))
  | nL3 {a b c i : Int} (h : 0 ≤ i) (h2 : i < 3) : IxD [.int a, .int b, .int c] i (.int ([a, b, c].getD i.toNat 0))
  | nL4 {a b c d i : Int} (h : 0 ≤ i) (h2 : i < 4) : IxD [.int a, .int b, .int c, .int d] i (.int ([a, b, c, d].getD i.toNat 0))
  | lit {ds : List PyData} {i : Int} {d : PyData} (h : atI ds i = some d) : IxD ds i d
section
variable {X : Cx} {e a b : Expr} {es : List Expr} {A : List C} {pos p p2 : Pos} {x : Str}
theorem ev_bin {op : Operator} {d1 d2 : PyData} {c : C} (h1 : Ev X A a (.dat d1)) (h2 : Ev X A b (.dat d2)) (h : BinD op d1 d2 c) : Ev X A (.BinOp a op b pos) c := by
  cases h with
  | add => exact ev_add h1 h2
  | sub => exact ev_sub h1 h2
  | mul h => exact ev_mul h1 h2 h
  | mod h => exact ev_mod h1 h2 h
  | div h h' => exact ev_div h1 h2 h h'
  | pow h => exact ev_pow h1 h2 h
  | cat h => exact ev_catT h1 h2 h
  | catI h => exact ev_eq (ev_catT h1 h2 (by simpa using h)) (by simp)
  | catI1 h => exact ev_eq (ev_catT h1 h2 (by simpa using h)) (by simp)
  | cat1I h => exact ev_eq (ev_catT h1 h2 (by simp; omega)) (by simp)
  | catT h => exact ev_eq (ev_catT h1 h2 (by simpa using h)) (by simp)
  | catT1 h => exact ev_eq (ev_catT h1 h2 (by simpa using h)) (by simp)
  | str h => exact ev_op op_add_str h1 h2 (bin_val fun I H v w s h1 h2 Q q => ⟨_, _, dp_str h1, dp_str h2, h, q _ (.str _)⟩)
theorem ev_cmpD {op : CmpOp} {d1 d2 : PyData} {v : Bool} (h1 : Ev X A a (.dat d1)) (h2 : Ev X A b (.dat d2)) (h : CmpD op d1 d2 v) : Ev X A (.Compare a [op] [b] pos) (.dat (.bool v)) := by
  cases h with
  | lt => exact ev_lt h1 h2
  | le => exact ev_le h1 h2
  | gt => exact ev_gt h1 h2
  | ge => exact ev_ge h1 h2
  | eqI => exact ev_eqI h1 h2
  | neI => exact ev_neI h1 h2
  | eqS => exact ev_eqS h1 h2
  | neS => exact ev_neS h1 h2
/-- a comparison by data -/
def CmpR (X : Cx) (op : CmpOp) (b : Expr) (d1 d2 : PyData) (v : Bool) : Prop := ∃ r : R2, OpR X (compareOp op) r ∧ Bin X r d1 d2 (.dat (.bool v)) ∧ behindInMarks op b = false
theorem cmpR_D {op : CmpOp} {d1 d2 : PyData} {v : Bool} (h : CmpD op d1 d2 v) : CmpR X op b d1 d2 v := by
  cases h with
  | lt => exact ⟨_, op_lt, bI0 fun _ => .bl _, nomark _⟩
  | le => exact ⟨_, op_le, bI0 fun _ => .bl _, nomark _⟩
  | gt => exact ⟨_, op_gt, bI0 fun _ => .bl _, nomark _⟩
  | ge => exact ⟨_, op_ge, bI0 fun _ => .bl _, nomark _⟩
  | eqI => exact ⟨_, op_eq, bin_val fun I H v w s h1 h2 Q q => by rw [dp_int h1, dp_int h2]; exact ⟨rfl, by rw [decV]; exact q _ (.bl _)⟩, nomark _⟩
  | neI => exact ⟨_, op_ne, bin_val fun I H v w s h1 h2 Q q => by rw [dp_int h1, dp_int h2]; exact ⟨rfl, by rw [decV]; exact q _ (.bl _)⟩, nomark _⟩
  | eqS => exact ⟨_, op_eq, bin_val fun I H v w s h1 h2 Q q => by rw [dp_str h1, dp_str h2]; exact ⟨rfl, by rw [decS]; exact q _ (.bl _)⟩, nomark _⟩
  | neS => exact ⟨_, op_ne, bin_val fun I H v w s h1 h2 Q q => by rw [dp_str h1, dp_str h2]; exact ⟨rfl, by rw [decS]; exact q _ (.bl _)⟩, nomark _⟩
theorem cmpR_eqD {d1 d2 : PyData} {k : Nat} (hr : Room k X.A) (s1 : SeqAt.shaped d1 = true) (s2 : SeqAt.shaped d2 = true) : CmpR X .Eq b d1 d2 (PyData.eqv d1 d2) :=
  ⟨_, op_eqD hr.units, bin_val fun I H v w s h1 h2 Q q => ⟨d1, d2, (dp_mono s h1).kit s1, (dp_mono s h2).kit s2, s1, s2, q _ (.bl _)⟩, nomark _⟩
theorem cmpR_neD {d1 d2 : PyData} {k : Nat} (hr : Room k X.A) (s1 : SeqAt.shaped d1 = true) (s2 : SeqAt.shaped d2 = true) : CmpR X .NotEq b d1 d2 (!PyData.eqv d1 d2) :=
  ⟨_, op_neD hr.units, bin_val fun I H v w s h1 h2 Q q => ⟨d1, d2, (dp_mono s h1).kit s1, (dp_mono s h2).kit s2, s1, s2, q _ (.bl _)⟩, nomark _⟩
theorem CmpR.eq {op : CmpOp} {d1 d2 : PyData} {v u : Bool} (h : CmpR X op b d1 d2 v) (e : v = u) : CmpR X op b d1 d2 u := e ▸ h
theorem ev_cmpR {op : CmpOp} {d1 d2 : PyData} {v : Bool} (h1 : Ev X A a (.dat d1)) (h2 : Ev X A b (.dat d2)) (h : CmpR X op b d1 d2 v) : Ev X A (.Compare a [op] [b] pos) (.dat (.bool v)) := by
  obtain ⟨r, ho, hb, hm⟩ := h
  exact ev_cmp ho h1 h2 hb hm
theorem et_cmpR {op : CmpOp} {d1 d2 : PyData} {v : Bool} (h1 : Ev X A a (.dat d1)) (h2 : Ev X A b (.dat d2)) (h : CmpR X op b d1 d2 v) : Et X A (.Compare a [op] [b] pos) v := by
  obtain ⟨r, ho, hb, hm⟩ := h
  exact fun I0 H0 σ I H rl Q q => wt_of (pt_cmpR ho wx_pe wx_pe hm) (bin_run h1 h2 hb rl fun u I1 H1 g hu => ⟨v, dp_bool hu, q I1 H1 g⟩)
theorem evs_dat {d : PyData} {k : Bool} {ds : List PyData} (h : Ev X A e (.dat d)) (hs : SeqD d k ds) : EvS X A e k ds := by
  cases hs with
  | tup => exact evs_tup h
  | lst => exact evs_lst h
theorem ev_atD {k : Bool} {ds : List PyData} {i : Int} {d : PyData} (h1 : EvS X A a k ds) (h2 : Ev X A b (.dat (.int i))) (h : IxD ds i d) (hs : PlainIx b) : Ev X A (.Subscript a b pos) (.dat d) := by
  refine ev_at h1 h2 ?_ hs
  have key : ∀ {α : Type} (f : α → PyData) (xs : List α) (z : α), 0 ≤ i → i < xs.length → atI (xs.map f) i = some (f (xs.getD i.toNat z)) := fun f xs z h0 h1 => by
    have e1 : ((i.toNat : Nat) : Int) = i := Int.toNat_of_nonneg h0
    have h2 : i.toNat < xs.length := by omega
    rw [← e1]
    refine atI_nat ?_
    rw [List.getElem?_map, e1, List.getElem?_eq_getElem h2, List.getD_eq_getElem?_getD, List.getElem?_eq_getElem h2]
    rfl
  cases h with
  | nIn h1 => exact key .int _ 0 (by omega) (by omega)
  | nTn h1 => exact key tI _ [] (by omega) (by omega)
  | nTTn h1 => exact key tT _ [] (by omega) (by omega)
  | nTT h0 h1 => exact key tT _ [] h0 h1
  | nI h0 h1 => exact key .int _ 0 h0 h1
  | nS h0 h1 => exact key .str _ _ h0 h1
  | nT h0 h1 => exact key tI _ [] h0 h1
  | nL2 h0 h1 => exact key .int [_, _] 0 h0 h1
  | nL3 h0 h1 => exact key .int [_, _, _] 0 h0 h1
  | nL4 h0 h1 => exact key .int [_, _, _, _] 0 h0 h1
  | lit h => exact h
theorem s1_retE {c c' : C} (he : Ev X A e c) (h : c = c') : S1 X A (.Return (some e) pos) (.rt c') := h ▸ s1_ret he
theorem ei_dat {tg : Expr} {d : PyData} {k : Bool} {ds : List PyData} (h : Ev X A e (.dat d)) (hs : SeqD d k ds) : EvI X A tg e ds := by
  cases hs with
  | tup => exact ei_tup h
  | lst => exact ei_list h
/-- not a < b < c -/
theorem ev_ifExp {v : Bool} {c : Expr} {o : C} (h : Et X A c v) (h1 : v = true → Ev X A a o) (h2 : v = false → Ev X A b o) : Ev X A (.IfExp c a b pos) o := fun I0 H0 σ I H rl Q q =>
  wx_of (pe_ifExp wt_pe wx_pe wx_pe) (h I0 H0 σ I H rl _ fun I1 H1 g => by
    cases v with
    | true => exact iteT (h1 rfl I0 H0 σ I1 H1 (rl.grow g) Q fun y I2 H2 g2 hy => q y I2 H2 (g.trans g2) (hy.back g.hh))
    | false => exact iteF (h2 rfl I0 H0 σ I1 H1 (rl.grow g) Q fun y I2 H2 g2 hy => q y I2 H2 (g.trans g2) (hy.back g.hh)))
/-- a < b < c and the like -/
theorem ev_chain {o1 o2 : CmpOp} {i j k : Int} {v u : Bool} {r1 r2 : R2} {c : Expr} (h1 : Ev X A a (.dat (.int i))) (h2 : Ev X A b (.dat (.int j))) (h3 : Ev X A c (.dat (.int k))) (d1 : OpR X (compareOp o1) r1) (d2 : OpR X (compareOp o2) r2)
    (b1 : Bin X r1 (.int i) (.int j) (.dat (.bool v))) (b2 : Bin X r2 (.int j) (.int k) (.dat (.bool u))) (hm : lastMarks [o1, o2] [b, c] = false) : Ev X A (.Compare a [o1, o2] [b, c] pos) (.dat (.bool (v && u))) := fun I0 H0 σ I H rl Q q => by
  refine wx_of (pe_chain d1 d2 wx_pe wx_pe wx_pe hm) ?_
  refine h1 I0 H0 σ I H rl _ fun x1 I1 H1 g1 hx => h2 I0 H0 σ I1 H1 (rl.grow g1) _ fun x2 I2 H2 g2 hy => b1 I2 H2 x1 x2 g2.ih (dp_mono g2.ii hx) hy _ fun z I3 H3 g3 hz => ?_
  refine ⟨v, dp_bool hz, ?_⟩
  have g := (g1.trans g2).trans g3
  cases v with
  | true => exact iteT (h3 I0 H0 σ I3 H3 (rl.grow g) _ fun x3 I4 H4 g4 hw => b2 I4 H4 x2 x3 g4.ih (dp_mono (g3.trans g4).ii hy) hw _ fun y I5 H5 g5 hy' => q y I5 H5 ((g.trans g4).trans g5) hy')
  | false => exact iteF (q _ I3 H3 g (Dp.bl false))
theorem et_chain {o1 o2 : CmpOp} {i j k : Int} {v u : Bool} {c : Expr} (h1 : Ev X A a (.dat (.int i))) (h2 : Ev X A b (.dat (.int j))) (h3 : Ev X A c (.dat (.int k))) (d1 : CmpR X o1 b (.int i) (.int j) v) (d2 : CmpR X o2 c (.int j) (.int k) u) (hm : lastMarks [o1, o2] [b, c] = false := by with_unfolding_all rfl) :
    Et X A (.Compare a [o1, o2] [b, c] pos) (v && u) := fun I0 H0 σ I H rl Q q => by
  obtain ⟨r1, p1, b1, _⟩ := d1
  obtain ⟨r2, p2, b2, _⟩ := d2
  refine wt_of (pt_chain p1 p2 wx_pe wx_pe wx_pe hm) ?_
  refine h1 I0 H0 σ I H rl _ fun x1 I1 H1 g1 hx => h2 I0 H0 σ I1 H1 (rl.grow g1) _ fun x2 I2 H2 g2 hy => b1 I2 H2 x1 x2 g2.ih (dp_mono g2.ii hx) hy _ fun z I3 H3 g3 hz => ?_
  refine ⟨v, dp_bool hz, ?_⟩
  have g := (g1.trans g2).trans g3
  cases v with
  | true => exact iteT (h3 I0 H0 σ I3 H3 (rl.grow g) _ fun x3 I4 H4 g4 hw => b2 I4 H4 x2 x3 g4.ih (dp_mono (g3.trans g4).ii hy) hw _ fun y I5 H5 g5 hy' => ⟨u, dp_bool hy', q I5 H5 ((g.trans g4).trans g5)⟩)
  | false => exact iteF ⟨false, rfl, q I3 H3 g⟩
theorem ev_chainR {o1 o2 : CmpOp} {i j k : Int} {v u : Bool} {c : Expr} (h1 : Ev X A a (.dat (.int i))) (h2 : Ev X A b (.dat (.int j))) (h3 : Ev X A c (.dat (.int k))) (d1 : CmpR X o1 b (.int i) (.int j) v) (d2 : CmpR X o2 c (.int j) (.int k) u) (hm : lastMarks [o1, o2] [b, c] = false := by with_unfolding_all rfl) :
    Ev X A (.Compare a [o1, o2] [b, c] pos) (.dat (.bool (v && u))) := by
  obtain ⟨r1, p1, b1, _⟩ := d1
  obtain ⟨r2, p2, b2, _⟩ := d2
  exact ev_chain h1 h2 h3 p1 p2 b1 b2 hm
end
end LR

set_option Elab.async false
set_option linter.all false
set_option maxRecDepth 100000
set_option maxHeartbeats 4000000
/-! The layer LR, part g: the rules over a context of which the names and the scope are told. -/
namespace LR
open PySem PySem.Spec PyProof.Rows L2

/-- what is told of a context -/
structure XF (P : Program) (w : World) (K : PySem.W.Frag) (mg : Str → Option Value) (base : Heap) (N : List Str) (sc : Scope) (k : Nat) (X : Cx) : Prop where
  eP : X.prog = P
  eW : X.w = w
  eK : X.K = K
  eM : X.mg = mg
  eB : X.base = base
  eN : X.N = N
  eS : X.env.scope = sc
  calm : X.calm = true
  nd : N.Nodup
  room : Room k X.A
  pass : PassesOwn (model X.prog X.w) X.A X.env X.xe
/-- .. of a def's own -/
structure XT (X : Cx) : Prop where
  stack : X.stack = X.env :: X.outer
  frame : X.env.frame = some X.env.locals
  fn : ∀ x, X.fn x = true
abbrev GlS (sc : Scope) (x : Str) : Prop := sc.names.lookup x = some .globalImplicit
instance {sc : Scope} {x : Str} : Decidable (Vis sc x) := by unfold Vis; infer_instance
instance {sc : Scope} {x : Str} : Decidable (L2.Loc sc x) := by unfold L2.Loc; infer_instance
section
variable {P : Program} {w : World} {K : PySem.W.Frag} {mg : Str → Option Value} {base : Heap} {N : List Str} {sc : Scope} {k : Nat}
variable {X : Cx} {e a b : Expr} {es : List Expr} {A : List C} {pos p p2 : Pos} {x : Str}
variable (hX : XF P w K mg base N sc k X)
include hX
theorem XF.gl (h : GlS sc x) : Gl X x := by unfold Gl Env.kindOf; rw [hX.eS]; exact h
theorem XF.vis (h : Vis sc x) : Vis X.env.scope x := by rw [hX.eS]; exact h
theorem XF.loc (h : L2.Loc sc x) : L2.Loc X.env.scope x := by rw [hX.eS]; exact h
theorem XF.ndX : X.N.Nodup := by rw [hX.eN]; exact hX.nd
theorem XF.fnX {j : Nat} {y : Str} {ps : List Str} {R : List PyData → Res → Prop} (G : Fn P w K mg base j y ps R) : Fn X.prog X.w X.K X.mg X.base j y ps R := by
  rw [hX.eP, hX.eW, hX.eK, hX.eM, hX.eB]; exact G
theorem nmF (i : Nat) {d : PyData} (hN : N[i]? = some x) (hA : A[i]? = some (.dat d)) (hv : Vis sc x) (hd : (x == ("__debug__" : Str)) = false) (hcd : (x == ("__classdict__" : Str)) = false) : Ev X A (.Name x pos) (.dat d) :=
  ev_name i (by rw [hX.eN]; exact hN) hA (hX.vis hv) hd hcd
theorem ownF (i : Nat) {ds : List PyData} (hN : N[i]? = some x) (hA : A[i]? = some (.own (.lst ds))) (hv : Vis sc x) (hd : (x == ("__debug__" : Str)) = false) (hcd : (x == ("__classdict__" : Str)) = false) : EvS X A (.Name x pos) true ds :=
  evs_own i (by rw [hX.eN]; exact hN) hA (hX.vis hv) hd hcd
theorem ownlF (i : Nat) {ds : List PyData} (hN : N[i]? = some x) (hA : A[i]? = some (.own (.lst ds))) (hv : Vis sc x) (hd : (x == ("__debug__" : Str)) = false) (hcd : (x == ("__classdict__" : Str)) = false) : EvL X A (.Name x pos) ds :=
  evl_own i (by rw [hX.eN]; exact hN) hA (hX.vis hv) hd hcd
theorem callF {j : Nat} {ps : List Str} {R : List PyData → Res → Prop} {ds : List PyData} {c : C} (G : Fn P w K mg base j x ps R) (hj : j ≤ k) (hg : GlS sc x) (ha : EvA X A (e :: es) ds) (h : R ds (.ok c)) (hdb : (x == ("__debug__" : Str)) = false)
    (he : starEach (e :: es) X.env = (false, eval e X.env) :: starEach es X.env := by rfl) (hpl : (backTo pos (starEach es X.env)).any (·.1) = false := by rfl) : Ev X A (.Call (.Name x p) (e :: es) [] pos) c :=
  ev_call (hX.fnX G) (hX.room.mono hj) (hX.gl hg) ha h hdb he hpl
theorem callXF {j : Nat} {ps : List Str} {R : List PyData → Res → Prop} {ds : List PyData} {y : Str} (G : Fn P w K mg base j x ps R) (hj : j ≤ k) (hg : GlS sc x) (ha : EvA X A (e :: es) ds) (h : R ds (.ex y)) (hdb : (x == ("__debug__" : Str)) = false)
    (he : starEach (e :: es) X.env = (false, eval e X.env) :: starEach es X.env := by rfl) (hpl : (backTo pos (starEach es X.env)).any (·.1) = false := by rfl) : EvX X A (.Call (.Name x p) (e :: es) [] pos) y :=
  evx_call (hX.fnX G) (hX.room.mono hj) (hX.gl hg) ha h hdb he hpl
theorem lenF {v : Bool} {ds : List PyData} (hg : GlS sc "len") (hm : mg "len" = none) (h : EvS X A e v ds) (hs : starEach (e :: []) X.env = (false, eval e X.env) :: starEach [] X.env := by rfl) : Ev X A (.Call (.Name "len" p) [e] [] pos) (.dat (.int ds.length)) :=
  ev_len (hX.gl hg) (by rw [hX.eM]; exact hm) h hs
theorem tupleF {ds : List PyData} (hg : GlS sc "tuple") (hm : mg "tuple" = none) (h : EvS X A e true ds) (hs : starEach (e :: []) X.env = (false, eval e X.env) :: starEach [] X.env := by rfl) : Ev X A (.Call (.Name "tuple" p) [e] [] pos) (.dat (.tuple ds)) :=
  ev_tuple (hX.gl hg) (by rw [hX.eM]; exact hm) h (hs := hs)
theorem tupleTF {ds : List PyData} (hg : GlS sc "tuple") (hm : mg "tuple" = none) (h : Ev X A e (.dat (.tuple ds))) (hs : starEach (e :: []) X.env = (false, eval e X.env) :: starEach [] X.env := by rfl) : Ev X A (.Call (.Name "tuple" p) [e] [] pos) (.dat (.tuple ds)) :=
  ev_tupleT (hX.gl hg) (by rw [hX.eM]; exact hm) h (hs := hs)
theorem listF {v : Bool} {ds : List PyData} (hg : GlS sc "list") (hm : mg "list" = none) (h : EvS X A e v ds) (hs : starEach (e :: []) X.env = (false, eval e X.env) :: starEach [] X.env := by rfl) : Ev X A (.Call (.Name "list" p) [e] [] pos) (.own (.lst ds)) :=
  ev_list (hX.gl hg) (by rw [hX.eM]; exact hm) h (hs := hs)
theorem intBF {v : Bool} (hg : GlS sc "int") (hm : mg "int" = none) (h : Ev X A e (.dat (.bool v))) (hs : starEach (e :: []) X.env = (false, eval e X.env) :: starEach [] X.env := by rfl) : Ev X A (.Call (.Name "int" p) [e] [] pos) (.dat (.int (if v then 1 else 0))) :=
  ev_intB (hX.gl hg) (by rw [hX.eM]; exact hm) h (hs := hs)
theorem max2F {i j : Int} (hg : GlS sc "max") (hm : mg "max" = none) (h : EvA X A [e, b] [.int i, .int j]) (hs : starEach (e :: [b]) X.env = (false, eval e X.env) :: starEach [b] X.env := by rfl) (hpl : (backTo pos (starEach [b] X.env)).any (·.1) = false := by rfl) :
    Ev X A (.Call (.Name "max" p) [e, b] [] pos) (.dat (.int (max i j))) := ev_max2 hX.calm (hX.gl hg) (by rw [hX.eM]; exact hm) h (hs := hs) (hpl := hpl)
theorem min2F {i j : Int} (hg : GlS sc "min") (hm : mg "min" = none) (h : EvA X A [e, b] [.int i, .int j]) (hs : starEach (e :: [b]) X.env = (false, eval e X.env) :: starEach [b] X.env := by rfl) (hpl : (backTo pos (starEach [b] X.env)).any (·.1) = false := by rfl) :
    Ev X A (.Call (.Name "min" p) [e, b] [] pos) (.dat (.int (min i j))) := ev_min2 hX.calm (hX.gl hg) (by rw [hX.eM]; exact hm) h (hs := hs) (hpl := hpl)
theorem sumF {ns : List Int} (hg : GlS sc "sum") (hm : mg "sum" = none) (h : EvS X A e true (ns.map PyData.int)) (hs : starEach (e :: []) X.env = (false, eval e X.env) :: starEach [] X.env := by rfl) : Ev X A (.Call (.Name "sum" p) [e] [] pos) (.dat (.int ns.sum)) :=
  ev_sum hX.calm (hX.gl hg) (by rw [hX.eM]; exact hm) h (hs := hs)
theorem anyF {bs : List Bool} (hg : GlS sc "any") (hm : mg "any" = none) (h : EvS X A e true (bs.map PyData.bool)) (hs : starEach (e :: []) X.env = (false, eval e X.env) :: starEach [] X.env := by rfl) : Ev X A (.Call (.Name "any" p) [e] [] pos) (.dat (.bool (bs.any id))) :=
  ev_any hX.calm (hX.gl hg) (by rw [hX.eM]; exact hm) h (hs := hs)
theorem allF {bs : List Bool} (hg : GlS sc "all") (hm : mg "all" = none) (h : EvS X A e true (bs.map PyData.bool)) (hs : starEach (e :: []) X.env = (false, eval e X.env) :: starEach [] X.env := by rfl) : Ev X A (.Call (.Name "all" p) [e] [] pos) (.dat (.bool (bs.all id))) :=
  ev_all hX.calm (hX.gl hg) (by rw [hX.eM]; exact hm) h (hs := hs)
theorem maxLF {ns : List Int} {m : Int} (hg : GlS sc "max") (hm : mg "max" = none) (h : EvS X A e true (ns.map PyData.int)) (h1 : m ∈ ns) (h2 : ∀ y ∈ ns, y ≤ m) (hs : starEach (e :: []) X.env = (false, eval e X.env) :: starEach [] X.env := by rfl) :
    Ev X A (.Call (.Name "max" p) [e] [] pos) (.dat (.int m)) := ev_maxL hX.calm (hX.gl hg) (by rw [hX.eM]; exact hm) h h1 h2 (hs := hs)
theorem minLF {ns : List Int} {m : Int} (hg : GlS sc "min") (hm : mg "min" = none) (h : EvS X A e true (ns.map PyData.int)) (h1 : m ∈ ns) (h2 : ∀ y ∈ ns, m ≤ y) (hs : starEach (e :: []) X.env = (false, eval e X.env) :: starEach [] X.env := by rfl) :
    Ev X A (.Call (.Name "min" p) [e] [] pos) (.dat (.int m)) := ev_minL hX.calm (hX.gl hg) (by rw [hX.eM]; exact hm) h h1 h2 (hs := hs)
theorem strIF {i : Int} (hg : GlS sc "str") (hm : mg "str" = none) (h : Ev X A e (.dat (.int i))) (hz : i.natAbs.log2 < 1920) (hs : starEach (e :: []) X.env = (false, eval e X.env) :: starEach [] X.env := by rfl) : Ev X A (.Call (.Name "str" p) [e] [] pos) (.dat (.str (toString i))) :=
  ev_strI (hX.gl hg) (by rw [hX.eM]; exact hm) h hz (hs := hs)
theorem isiF {T : String} {d : PyData} {r : Bool} (hg : GlS sc "isinstance") (hm : mg "isinstance" = none) (h1 : Ev X A e (.dat d)) (hgT : GlS sc (Str.ofString T)) (hmT : mg (Str.ofString T) = none) (hbT : bootBuiltins (Str.ofString T) = some (.type T)) (hk : kitB (tyD d) T = some r)
    (hn : Str.ofString T ≠ "__name__") (hdb : (Str.ofString T == ("__debug__" : Str)) = false) (hs : starEach (e :: [.Name (Str.ofString T) p2]) X.env = (false, eval e X.env) :: starEach [.Name (Str.ofString T) p2] X.env := by rfl) :
    Ev X A (.Call (.Name "isinstance" p) [e, .Name (Str.ofString T) p2] [] pos) (.dat (.bool r)) :=
  ev_isi (hX.gl hg) (by rw [hX.eM]; exact hm) h1 rfl (hX.gl hgT) (by rw [hX.eM]; exact hmT) hbT hk hn (hs := hs) (hdb := hdb)
theorem rangeF {tg : Expr} {n : Int} (hg : GlS sc "range") (hm : mg "range" = none) (h : Ev X A a (.dat (.int n))) (h1 : -1000000 ≤ n) (h2 : n ≤ 1000000) (hs : starEach (a :: []) X.env = (false, eval a X.env) :: starEach [] X.env := by rfl) :
    EvI X A tg (.Call (.Name "range" p) [a] [] pos) ((List.range n.toNat).map fun i : Nat => .int (i : Int)) := ei_range (hX.gl hg) (by rw [hX.eM]; exact hm) h h1 h2 hs
theorem range2F {tg : Expr} {lo hi : Int} (hg : GlS sc "range") (hm : mg "range" = none) (h : EvA X A [a, b] [.int lo, .int hi]) (h1 : -1000000 ≤ lo) (h2 : lo ≤ 1000000) (h3 : -1000000 ≤ hi) (h4 : hi ≤ 1000000)
    (hs : starEach [a, b] X.env = [(false, eval a X.env), (false, eval b X.env)] := by rfl) (hs2 : starEach [b] X.env = [(false, eval b X.env)] := by rfl) :
    EvI X A tg (.Call (.Name "range" p) [a, b] [] pos) ((List.range (hi - lo).toNat).map fun i : Nat => .int (lo + i)) := ei_range2 (hX.gl hg) (by rw [hX.eM]; exact hm) h h1 h2 h3 h4 hs hs2
theorem eqF {d1 d2 : PyData} (h1 : Ev X A a (.dat d1)) (h2 : Ev X A b (.dat d2)) (s1 : SeqAt.shaped d1 = true) (s2 : SeqAt.shaped d2 = true) : Ev X A (.Compare a [.Eq] [b] pos) (.dat (.bool (PyData.eqv d1 d2))) := ev_eqD hX.room h1 h2 s1 s2
theorem neF {d1 d2 : PyData} (h1 : Ev X A a (.dat d1)) (h2 : Ev X A b (.dat d2)) (s1 : SeqAt.shaped d1 = true) (s2 : SeqAt.shaped d2 = true) : Ev X A (.Compare a [.NotEq] [b] pos) (.dat (.bool (!PyData.eqv d1 d2))) := ev_neD hX.room h1 h2 s1 s2
theorem setF (hT : XT X) (j : Nat) {c : C} {pos' : Pos} (hN : N[j]? = some x) (hx : L2.Loc sc x) (he : Ev X A e c) (hj : A[j]?.isSome = true) (hs : swapsWith e (some (.Name x pos')) pos.line X.env = pure false := by rfl) : S1 X A (.Assign [.Name x pos'] e pos) (.nx (A.set j c)) :=
  s1_set j hX.ndX (by rw [hX.eN]; exact hN) (hX.loc hx) he hj rfl hs (.inl (hT.fn _))
theorem appF (j : Nat) {ds : List PyData} {d : PyData} {p3 p4 : Pos} (hN : N[j]? = some x) (hA : A[j]? = some (.own (.lst ds))) (hv : Vis sc x) (he : Ev X A e (.dat d)) (hz : ds.length < sizeLine) (hd : (x == ("__debug__" : Str)) = false) (hcd : (x == ("__classdict__" : Str)) = false)
    (hs : starEach (e :: []) X.env = (false, eval e X.env) :: starEach [] X.env := by rfl) (hpl : ((backTo p3 (starEach (e :: []) X.env)).all (fun x => !x.1) && (backToKw p3 (keywordEach [] X.env)).all (fun x => x.1.isSome) && decide (([e] : List Expr).length + ([] : List Keyword).length + (if ([] : List Keyword).isEmpty then 0 else 1) < 30)) = true := by rfl) (hline : (p2.endLine == p3.line) = true := by rfl)
    (hsw : swapsWith (.Call (.Attribute (.Name x p) "append" p2) [e] [] p3) none p4.line X.env = pure false := by rfl) : S1 X A (.Expr (.Call (.Attribute (.Name x p) "append" p2) [e] [] p3) p4) (.nx (A.set j (.own (.lst (ds ++ [d]))))) :=
  s1_append j (by rw [hX.eN]; exact hN) hA (hX.vis hv) he hz rfl hd hcd hs hpl hline hsw
theorem retOF (j : Nat) {ob : Ob} (hN : N[j]? = some x) (hA : A[j]? = some (.own ob)) (hv : Vis sc x) (hd : (x == ("__debug__" : Str)) = false) (hcd : (x == ("__classdict__" : Str)) = false) : S1 X A (.Return (some (.Name x p)) pos) (.rt (.own ob)) :=
  s1_retO j (by rw [hX.eN]; exact hN) hA (hX.vis hv) hd hcd
theorem tgF (hT : XT X) (j : Nat) (hN : N[j]? = some x) (hx : L2.Loc sc x) : PG X (.Name x pos) (gName j) := pg_name hX.ndX (by rw [hX.eN]; exact hN) (hX.loc hx) (.inl (hT.fn _))
theorem tgB (j : Nat) (hN : N[j]? = some x) (hx : sc.names.lookup x = some .local) : PG X (.Name x pos) (gName j) := pg_name hX.ndX (by rw [hX.eN]; exact hN) (hX.loc (.inl hx)) (.inr (by rw [hX.eS]; exact hx))
/-- for x in ..: over a list, a tuple, all of it -/
theorem forL {α : Type} {body : List Stmt} {tg : Expr} {src : List PyData} (j : Nat) (xs : List α) (enc : α → PyData) (inv : Nat → List C) (hi : EvI X A tg e src) (hsrc : src = xs.map enc) (hg : PG X tg (gName j)) (h0 : LeA A (inv 0)) (hj : ∀ i, (inv i)[j]?.isSome = true)
    (hb : ∀ (i : Nat) (h : i < xs.length), Sm X ((inv i).set j (.dat (enc xs[i]))) body (.nx (inv (i + 1)))) (hs : ∀ x, foldedSetIterable e X.env x = pure x := by intro _; rfl) : S1 X A (.For tg e body [] pos) (.nx (inv xs.length)) := by
  subst hsrc
  refine s1_for hX.pass hX.calm hi hg tg_name inv xs.length (by simp) h0 (fun i d hi hd => ?_) (.inl ⟨by simp, rfl⟩) hs
  rw [List.getElem?_map, List.getElem?_eq_getElem hi] at hd
  cases hd
  exact ⟨_, ⟨hj i, rfl⟩, hb i hi⟩
/-- .. left at the turn n -/
theorem forLx {α : Type} {body : List Stmt} {tg : Expr} {src : List PyData} {o o' : Out} (j : Nat) (xs : List α) (enc : α → PyData) (inv : Nat → List C) (n : Nat) (hn : n < xs.length) (hi : EvI X A tg e src) (hsrc : src = xs.map enc) (hg : PG X tg (gName j)) (h0 : LeA A (inv 0)) (hj : ∀ i, (inv i)[j]?.isSome = true)
    (hb : ∀ (i : Nat) (h : i < xs.length), i < n → Sm X ((inv i).set j (.dat (enc xs[i]))) body (.nx (inv (i + 1)))) (hx : Sm X ((inv n).set j (.dat (enc xs[n]))) body o') (ho : ExitOf o' o) (hs : ∀ x, foldedSetIterable e X.env x = pure x := by intro _; rfl) : S1 X A (.For tg e body [] pos) o := by
  subst hsrc
  refine s1_for hX.pass hX.calm hi hg tg_name inv n (by simp; omega) h0 (fun i d hi hd => ?_) (.inr ⟨_, _, o', ?_, ⟨hj n, rfl⟩, hx, ho⟩) hs
  · have hi2 : i < xs.length := by omega
    rw [List.getElem?_map, List.getElem?_eq_getElem hi2] at hd
    cases hd
    exact ⟨_, ⟨hj i, rfl⟩, hb i hi2 hi⟩
  · rw [List.getElem?_map, List.getElem?_eq_getElem hn]; rfl
theorem forN {body : List Stmt} {tg : Expr} {n : Nat} {src : List PyData} (g : Nat → PyData) (j : Nat) (inv : Nat → List C) (hi : EvI X A tg e src) (hsrc : src = (List.range n).map g) (hg : PG X tg (gName j)) (h0 : LeA A (inv 0)) (hj : ∀ i, (inv i)[j]?.isSome = true)
    (hb : ∀ (i : Nat), i < n → Sm X ((inv i).set j (.dat (g i))) body (.nx (inv (i + 1)))) (hs : ∀ x, foldedSetIterable e X.env x = pure x := by intro _; rfl) : S1 X A (.For tg e body [] pos) (.nx (inv n)) := by
  subst hsrc
  refine s1_for hX.pass hX.calm hi hg tg_name inv n (by simp) h0 (fun i d hi hd => ?_) (.inl ⟨by simp, rfl⟩) hs
  rw [List.getElem?_map, List.getElem?_range hi] at hd
  cases hd
  exact ⟨_, ⟨hj i, rfl⟩, hb i hi⟩
theorem forR0 {body : List Stmt} {tg : Expr} {n : Nat} {src : List PyData} (j : Nat) (inv : Nat → List C) (hi : EvI X A tg e src) (hsrc : src = (List.range n).map fun i : Nat => .int (i : Int)) (hg : PG X tg (gName j)) (h0 : LeA A (inv 0)) (hj : ∀ i, (inv i)[j]?.isSome = true)
    (hb : ∀ (i : Nat), i < n → Sm X ((inv i).set j (.dat (.int (i : Int)))) body (.nx (inv (i + 1)))) (hs : ∀ x, foldedSetIterable e X.env x = pure x := by intro _; rfl) : S1 X A (.For tg e body [] pos) (.nx (inv n)) := by
  subst hsrc
  refine s1_for hX.pass hX.calm hi hg tg_name inv n (by simp) h0 (fun i d hi hd => ?_) (.inl ⟨by simp, rfl⟩) hs
  rw [List.getElem?_map, List.getElem?_range hi] at hd
  cases hd
  exact ⟨_, ⟨hj i, rfl⟩, hb i hi⟩
/-- for k in range(n) -/
theorem forR {body : List Stmt} {tg : Expr} {n : Nat} {lo : Int} {src : List PyData} (j : Nat) (inv : Nat → List C) (hi : EvI X A tg e src) (hsrc : src = (List.range n).map fun i : Nat => .int (lo + i)) (hg : PG X tg (gName j)) (h0 : LeA A (inv 0)) (hj : ∀ i, (inv i)[j]?.isSome = true)
    (hb : ∀ (i : Nat), i < n → Sm X ((inv i).set j (.dat (.int (lo + i)))) body (.nx (inv (i + 1)))) (hs : ∀ x, foldedSetIterable e X.env x = pure x := by intro _; rfl) : S1 X A (.For tg e body [] pos) (.nx (inv n)) := by
  subst hsrc
  refine s1_for hX.pass hX.calm hi hg tg_name inv n (by simp) h0 (fun i d hi hd => ?_) (.inl ⟨by simp, rfl⟩) hs
  rw [List.getElem?_map, List.getElem?_range hi] at hd
  cases hd
  exact ⟨_, ⟨hj i, rfl⟩, hb i hi⟩
theorem forRx {body : List Stmt} {tg : Expr} {m : Nat} {lo : Int} {src : List PyData} {o o' : Out} (j : Nat) (inv : Nat → List C) (n : Nat) (hn : n < m) (hi : EvI X A tg e src) (hsrc : src = (List.range m).map fun i : Nat => .int (lo + i)) (hg : PG X tg (gName j)) (h0 : LeA A (inv 0)) (hj : ∀ i, (inv i)[j]?.isSome = true)
    (hb : ∀ (i : Nat), i < n → Sm X ((inv i).set j (.dat (.int (lo + i)))) body (.nx (inv (i + 1)))) (hx : Sm X ((inv n).set j (.dat (.int (lo + n)))) body o') (ho : ExitOf o' o) (hs : ∀ x, foldedSetIterable e X.env x = pure x := by intro _; rfl) : S1 X A (.For tg e body [] pos) o := by
  subst hsrc
  refine s1_for hX.pass hX.calm hi hg tg_name inv n (by simp; omega) h0 (fun i d hi hd => ?_) (.inr ⟨_, _, o', ?_, ⟨hj n, rfl⟩, hx, ho⟩) hs
  · rw [List.getElem?_map, List.getElem?_range (by omega)] at hd
    cases hd
    exact ⟨_, ⟨hj i, rfl⟩, hb i hi⟩
  · rw [List.getElem?_map, List.getElem?_range hn]; rfl
theorem whileF {c : Expr} {body : List Stmt} (inv : Nat → List C) (n : Nat) (h0 : LeA A (inv 0)) (hb : ∀ i, i < n → Et X (inv i) c true ∧ Sm X (inv i) body (.nx (inv (i + 1)))) (he : Et X (inv n) c false) : S1 X A (.While c body [] pos) (.nx (inv n)) :=
  s1_while hX.pass inv n h0 hb (.inl ⟨he, rfl⟩)
/-- .. its test told once for all turns -/
theorem whileV {c : Expr} {body : List Stmt} (inv : Nat → List C) (n : Nat) (v : Nat → Bool) (h0 : LeA A (inv 0)) (ht : ∀ i, i ≤ n → Et X (inv i) c (v i)) (hv : ∀ i, i < n → v i = true) (hn : v n = false) (hb : ∀ i, i < n → Sm X (inv i) body (.nx (inv (i + 1)))) : S1 X A (.While c body [] pos) (.nx (inv n)) :=
  s1_while hX.pass inv n h0 (fun i hi => ⟨hv i hi ▸ ht i (Nat.le_of_lt hi), hb i hi⟩) (.inl ⟨hn ▸ ht n (Nat.le_refl n), rfl⟩)
theorem whileFx {c : Expr} {body : List Stmt} {o o' : Out} (inv : Nat → List C) (n : Nat) (h0 : LeA A (inv 0)) (hb : ∀ i, i < n → Et X (inv i) c true ∧ Sm X (inv i) body (.nx (inv (i + 1)))) (he : Et X (inv n) c true) (hx : Sm X (inv n) body o') (ho : ExitOf o' o) : S1 X A (.While c body [] pos) o :=
  s1_while hX.pass inv n h0 hb (.inr ⟨o', he, hx, ho⟩)
/-- the context of a comprehension's block -/
theorem XF.blk {scope : Scope} {s : Shared} {H : Hp} {C : Addr} {cl : List (Str × Addr)} {fp : List Addr} : XF P w K mg base N (relS scope sc) k (X.blk s H scope (compEnvC scope cl C X.env) fp) where
  eP := hX.eP
  eW := hX.eW
  eK := hX.eK
  eM := hX.eM
  eB := hX.eB
  eN := hX.eN
  eS := by rw [← hX.eS]; rfl
  calm := hX.calm
  nd := hX.nd
  room := hX.room
  pass := PassesOwn.never
end
end LR

set_option Elab.async false
set_option linter.all false
set_option maxRecDepth 100000
set_option maxHeartbeats 4000000
/-! The layer LR, part h: comprehensions, raise and the rule of a def over a told context. -/
namespace LR
open PySem PySem.Spec PyProof.Rows L2
section
variable {P : Program} {w : World} {K : PySem.W.Frag} {mg : Str → Option Value} {base : Heap} {N : List Str} {sc : Scope} {k : Nat}
variable {X : Cx} {e a b : Expr} {es : List Expr} {A : List C} {pos p p2 : Pos} {x : Str}

theorem fnF {x qual : Str} {st : Stmt} {f : Addr} {fd : FuncData} {N ps : List Str} {k : Nat} {R : List PyData → Res → Prop} (F : Fun K x qual st f fd) (hm : mg x = some (.ref f)) (b : Binds K fd ps []) (S : FnScope N ps (defScope st)) (hR : ∀ ds r, R ds r → ds.length = ps.length)
    (hbody : ∀ X, XF P w K mg base N (defScope st) k X → XT X → ∀ ds r, R ds r → SmR X (A0 N ds) (defBody st) r) : Fn P w K mg base (k + 1) x ps R :=
  fn_ok F hm b S hR fun cdv A outer s H E hr ds r h => hbody _ ⟨rfl, rfl, rfl, rfl, rfl, rfl, rfl, rfl, S.nd, hr, passes_of rfl⟩ ⟨rfl, rfl, fun _ => rfl⟩ ds r h
variable (hX : XF P w K mg base N sc k X)
include hX
theorem raiseF (hT : XT X) {j} {m : Str} {pos' : Pos} (F : XC K mg x) (hg : GlS sc x) (hdb : (x == ("__debug__" : Str)) = false) : S1 X A (.Raise (some (.Call (.Name x p) [.Constant (.str m) j p2] [] pos)) none pos') (.ex x A) :=
  s1_raise hX.calm (by rw [hX.eK, hX.eM]; exact F) (hX.gl hg) hT.stack hT.frame hdb
theorem lcIf {α : Type} {elt iter c : Expr} {scope : Scope} {src : List PyData} (j : Nat) (xs : List α) (enc : α → PyData) (pr : α → Bool) (f : α → PyData) (hi : EvI X A (.Name x p) iter src) (hsrc : src = xs.map enc) (ok : blkC N sc scope [(x, j)] = true)
    (hN : N[j]? = some x) (hx : (relS scope sc).names.lookup x = some .local) (hz : xs.length < sizeLine) (hj : A[j]?.isSome = true)
    (hb : ∀ Y, XF P w K mg base N (relS scope sc) k Y → ∀ z ∈ xs, Et Y ((A.set j .un).set j (.dat (enc z))) c (pr z) ∧ (pr z = true → Ev Y ((A.set j .un).set j (.dat (enc z))) elt (.dat (f z))))
    (hs : ∀ x, foldedSetIterable iter X.env x = pure x := by intro _; rfl) : Ev X A (.ListComp elt [⟨.Name x p, iter, [c], 0⟩] scope pos) (.own (.lst ((xs.filter pr).map f))) :=
  ev_lc (own := [(x, j)]) (g := gName j) (U := uName j) xs enc pr f hX.calm hX.ndX hi hsrc (by rw [hX.eN, hX.eS]; exact blkOk_by ok) (fun s H C cl fp => tgB hX.blk j hN hx) tg_name tgw_name (Nat.le_refl _) hz
    (fun z hz => ⟨_, ⟨by show ((A.set j .un)[j]?).isSome = true; rw [List.getElem?_set_self (lt_of_some hj)]; rfl, rfl⟩, fun s H C cl fp => (hb _ hX.blk z hz).1, fun h s H C cl fp => (hb _ hX.blk z hz).2 h⟩) hs
theorem lcF {α : Type} {elt iter : Expr} {scope : Scope} {src : List PyData} (j : Nat) (xs : List α) (enc : α → PyData) (f : α → PyData) (hi : EvI X A (.Name x p) iter src) (hsrc : src = xs.map enc) (ok : blkC N sc scope [(x, j)] = true)
    (hN : N[j]? = some x) (hx : (relS scope sc).names.lookup x = some .local) (hz : xs.length < sizeLine) (hj : A[j]?.isSome = true)
    (hb : ∀ Y, XF P w K mg base N (relS scope sc) k Y → ∀ z ∈ xs, Ev Y ((A.set j .un).set j (.dat (enc z))) elt (.dat (f z)))
    (hs : ∀ x, foldedSetIterable iter X.env x = pure x := by intro _; rfl) : Ev X A (.ListComp elt [⟨.Name x p, iter, [], 0⟩] scope pos) (.own (.lst (xs.map f))) := by
  have q := ev_lc (own := [(x, j)]) (g := gName j) (U := uName j) (A := A) (elt := elt) (ifs := []) (pos := pos) xs enc (fun _ => true) f hX.calm hX.ndX hi hsrc (by rw [hX.eN, hX.eS]; exact blkOk_by ok) (fun s H C cl fp => tgB hX.blk j hN hx) tg_name tgw_name (Nat.zero_le _) hz
    (fun z hz => ⟨_, ⟨by show ((A.set j .un)[j]?).isSome = true; rw [List.getElem?_set_self (lt_of_some hj)]; rfl, rfl⟩, rfl, fun h s H C cl fp => hb _ hX.blk z hz⟩) hs
  rw [List.filter_eq_self.mpr fun _ _ => rfl] at q
  exact q
/-- name = [..], no if -/
theorem setLcF {α : Type} {elt iter : Expr} {scope : Scope} {src : List PyData} {y : Str} {py spos : Pos} (i j : Nat) (xs : List α) (enc : α → PyData) (f : α → PyData) (hi : EvI X A (.Name x p) iter src) (hsrc : src = xs.map enc) (ok : blkC N sc scope [(x, j)] = true)
    (hN : N[j]? = some x) (hx : (relS scope sc).names.lookup x = some .local) (hz : xs.length < sizeLine) (hj : A[j]?.isSome = true)
    (hb : ∀ Y, XF P w K mg base N (relS scope sc) k Y → ∀ z ∈ xs, Ev Y ((A.set j .un).set j (.dat (enc z))) elt (.dat (f z)))
    (hyN : N[i]? = some y) (hyl : sc.names.lookup y = some .local) (hyj : A[i]?.isSome = true) (hk : sc.kind = .function) (hl : (py.line == pos.line) = true) (ha : (scope.names.any fun (n, k) => n == y && (k == .local || k == .cell)) = false)
    (hs : ∀ x, foldedSetIterable iter X.env x = pure x := by intro _; rfl) : S1 X A (.Assign [.Name y py] (.ListComp elt [⟨.Name x p, iter, [], 0⟩] scope pos) spos) (.nx (A.set i (.own (.lst (xs.map f))))) := by
  have q := s1_setLc (own := [(x, j)]) (g := gName j) (U := uName j) (A := A) (elt := elt) (ifs := []) (pos := pos) (spos := spos) (py := py) xs enc (fun _ => true) f hX.calm hX.ndX hi hsrc (by rw [hX.eN, hX.eS]; exact blkOk_by ok) (fun s H C cl fp => tgB hX.blk j hN hx) tg_name tgw_name (Nat.zero_le _) hz
    (fun z hz => ⟨_, ⟨by show ((A.set j .un)[j]?).isSome = true; rw [List.getElem?_set_self (lt_of_some hj)]; rfl, rfl⟩, rfl, fun h s H C cl fp => hb _ hX.blk z hz⟩) hs (i := i) (y := y) (by rw [hX.eN]; exact hyN) (by rw [hX.eS]; exact hyl) (sw_true (by rw [hX.eS]; exact hk) (by rw [hX.eS]; exact hyl) hl ha) hyj
  rw [List.filter_eq_self.mpr fun _ _ => rfl] at q
  exact q
/-- over zip: two names -/
theorem lcZ {α : Type} {elt iter : Expr} {scope : Scope} {src : List PyData} {y : Str} {p3 p4 : Pos} {kk} (i j : Nat) (xs : List α) (enc1 enc2 : α → PyData) (f : α → PyData) (hi : EvI X A (.Tuple [.Name x p, .Name y p3] kk p4) iter src) (hsrc : src = xs.map fun z => .tuple [enc1 z, enc2 z]) (ok : blkC N sc scope [(x, i), (y, j)] = true)
    (hNi : N[i]? = some x) (hNj : N[j]? = some y) (hx : (relS scope sc).names.lookup x = some .local) (hy : (relS scope sc).names.lookup y = some .local) (hij : i ≠ j) (hz : xs.length < sizeLine) (hi' : A[i]?.isSome = true) (hj : A[j]?.isSome = true)
    (hb : ∀ Y, XF P w K mg base N (relS scope sc) k Y → ∀ z ∈ xs, Ev Y ((((A.set j .un).set i .un).set i (.dat (enc1 z))).set j (.dat (enc2 z))) elt (.dat (f z)))
    (hs : ∀ x, foldedSetIterable iter X.env x = pure x := by intro _; rfl) : Ev X A (.ListComp elt [⟨.Tuple [.Name x p, .Name y p3] kk p4, iter, [], 0⟩] scope pos) (.own (.lst (xs.map f))) := by
  have l1 := lt_of_some hi'
  have l2 := lt_of_some hj
  have q := ev_lc (own := [(x, i), (y, j)]) (g := gTup X.K [i, j].length (gNames [i, j])) (U := uTup [i, j]) (A := A) (elt := elt) (ifs := []) (pos := pos) xs (fun z => .tuple [enc1 z, enc2 z]) (fun _ => true) f hX.calm hX.ndX hi hsrc (by rw [hX.eN, hX.eS]; exact blkOk_by ok)
    (fun s H C cl fp => pg_tup (es := [.Name x p, .Name y p3]) hX.calm (pgs_cons (e := .Name x p) (es := [.Name y p3]) (tgB hX.blk i hNi hx) (pgs_cons (e := .Name y p3) (es := []) (tgB hX.blk j hNj hy) pgs_nil))) tg_tup (tgw_two hij) (Nat.zero_le _) hz
    (fun z hz => ⟨_, ⟨_, rfl, _, _, rfl, by
      show ((((A.set j .un).set i .un))[i]?).isSome = true
      rw [List.getElem?_set_self (by simpa using l1)]; rfl, _, _, rfl, by
      show (((((A.set j .un).set i .un)).set i _)[j]?).isSome = true
      rw [List.getElem?_set_ne hij, List.getElem?_set_ne hij, List.getElem?_set_self l2]; rfl, rfl, rfl⟩, rfl, fun h s H C cl fp => hb _ hX.blk z hz⟩) hs
  rw [List.filter_eq_self.mpr fun _ _ => rfl] at q
  exact q
end
end LR

set_option Elab.async false
set_option linter.all false
set_option maxRecDepth 100000
set_option maxHeartbeats 4000000
/-! The layer LR, part i: stores by place, repeated lists and tuples, steps of ranges, unpacked lists, equal data. -/
namespace LR
open PySem PySem.Spec PyProof.Rows L2

/-! ### t * 0, t * 1 -/
theorem tuple_mulOne (l : Addr) (items : Array Value) (n : Nat) (dd : Option Addr) (sl : Array (Option Value)) (u : Tok) :
    Meets (Builtin.«tuple.__mul__» ⟨[.ref l, .int 1 u], []⟩) (fun _ R s => s.heap.get? l = some { cls := .type "tuple", dict := dd, data := .seq items n, slots := sl } ∧ R (.ok (.ret (Value.ref l))) s) :=
  .of_wp fun prog w A R s h => by
    obtain ⟨hp, g, d, tk, os⟩ := s
    obtain ⟨hl, h⟩ := h
    have f1 := AutoSeq1.idx_int
    have c1 : (items.isEmpty || (1 : Int) == 1) = true := by simp
    wp_walk using wpAny_loadPart' hl
    repeat (first
      | (refine wpAny_ite_false (decide_eq_false (by decide)) ?_; wp_walk using wpAny_loadPart' hl)
      | (refine wpAny_ite_true (decide_eq_true c1) ?_; wp_walk using wpAny_loadPart' hl))
    exact ⟨_, rfl, h⟩
theorem tuple_mulNone (l : Addr) (items : Array Value) (n : Nat) (dd : Option Addr) (sl : Array (Option Value)) (u : Tok) (hi : items.isEmpty = false) :
    Meets (Builtin.«tuple.__mul__» ⟨[.ref l, .int 0 u], []⟩) (fun _ R s => s.heap.get? l = some { cls := .type "tuple", dict := dd, data := .seq items n, slots := sl } ∧
      R (.ok (.ret (Value.ref s.heap.objs.size))) { s with heap := s.heap.push { cls := Value.type "tuple", data := Data.seq #[] }, toks := s.toks }) :=
  .of_wp fun prog w A R s h => by
    obtain ⟨hp, g, d, tk, os⟩ := s
    obtain ⟨hl, h⟩ := h
    have f1 := AutoSeq1.idx_int
    have c1 : (items.isEmpty || (0 : Int) == 1) = false := by simp [hi]
    have c2 : (decide ((0 : Int) ≤ 0) || items.isEmpty) = true := by simp
    wp_walk using wpAny_loadPart' hl
    repeat (first
      | (refine wpAny_ite_false (decide_eq_false (by decide)) ?_; wp_walk using wpAny_loadPart' hl)
      | (refine wpAny_ite_false (decide_eq_false (by rw [c1]; exact Bool.false_ne_true)) ?_; wp_walk using wpAny_loadPart' hl)
      | (refine wpAny_ite_true (decide_eq_true c2) ?_; wp_walk using wpAny_loadPart' hl))
    exact ⟨_, rfl, h⟩
section
variable {X : Cx}
def rRepA (K : PySem.W.Frag) : R2 := fun x y H Q => ∃ l k xs, x = .ref l ∧ y = .int k ∧ SqT K H l xs ∧ xs ≠ [] ∧ 0 ≤ k ∧ k ≤ 1000 ∧ xs.length ≤ 1000 ∧ (k = 1 → Q (.ref l) H) ∧ (k ≠ 1 → ∀ p, H p = none → Q (.ref p) (upd H p (.tup (List.replicate k.toNat xs).flatten)))
theorem op_repA : OpR X (binaryOp .Mult) (rRepA X.K) := by
  intro pins s σ H x y v u Q I rx ry h
  obtain ⟨l, k, xs, rfl, rfl, hT, hne, h1, h2, hz, q1, q2⟩ := h
  by_cases hk : 2 ≤ k
  · exact op_repT pins s σ H _ _ v u Q I rx ry ⟨l, k, xs, rfl, rfl, hT, hne, hk, h2, hz, q2 (by omega)⟩
  cases rx
  obtain ⟨t, rfl⟩ := ry
  obtain ⟨its, r, ⟨⟨cls, dd, data, sl⟩, ho, hc, n, hd⟩, hs⟩ := I.tuple hT
  simp only at hc hd
  subst hc hd
  have hle : its.length = xs.length := r.length.symm
  have hn : its ≠ [] := fun e => hne (by
    rw [e] at hle
    exact List.eq_nil_of_length_eq_zero hle.symm)
  have hi : its.toArray.isEmpty = false := by
    cases its with
    | nil => exact absurd rfl hn
    | cons a b => rfl
  rcases (show k = 0 ∨ k = 1 by omega) with rfl | rfl
  · refine wpAny_binaryOp_repeat_ref (T := "tuple") (U := "int") (by decide) ⟨_, ho, rfl⟩ (fun s' => typeIs_int s' 0 t) noFill_tuple_mul F.fills_int_mul F.slot_int_rmul repeat_tuple F.slot_int_index.lookup
      (call_meets F.slot_int_rmul (typeIs_int s 0 t) F.entry_int_rmul (F.args_int_rmul_2 _ _) (int_rmul_tuple 0 t l its.toArray n dd sl)
        ⟨ho, rfl, ⟨_, ho, rfl⟩, call_meets F.slot_tuple_mul ⟨_, ho, rfl⟩ F.entry_tuple_mul (F.args_tuple_mul_2 _ _) (tuple_mulNone l its.toArray n dd sl t hi) ⟨ho, ?_⟩⟩)
    refine ⟨.ref s.heap.objs.size, _, I.laid (t' := s.toks) (o := .tup []) (fun b ob q => Heap.get?_push_of_some _ q) (Nat.le_refl _) ?_, rfl, q2 (by decide) _ (I.hok.fresh (Nat.le_refl _))⟩
    exact ⟨Nat.zero_le _, [], .nil, IsTup.new _ _⟩
  · refine wpAny_binaryOp_repeat_ref (T := "tuple") (U := "int") (by decide) ⟨_, ho, rfl⟩ (fun s' => typeIs_int s' 1 t) noFill_tuple_mul F.fills_int_mul F.slot_int_rmul repeat_tuple F.slot_int_index.lookup
      (call_meets F.slot_int_rmul (typeIs_int s 1 t) F.entry_int_rmul (F.args_int_rmul_2 _ _) (int_rmul_tuple 1 t l its.toArray n dd sl)
        ⟨ho, rfl, ⟨_, ho, rfl⟩, call_meets F.slot_tuple_mul ⟨_, ho, rfl⟩ F.entry_tuple_mul (F.args_tuple_mul_2 _ _) (tuple_mulOne l its.toArray n dd sl t) ⟨ho, ?_⟩⟩)
    exact ⟨.ref l, H, I, rfl, q1 rfl⟩
end
theorem rep_one {α : Type} (x : α) : ∀ n : Nat, (List.replicate n [x]).flatten = List.replicate n x
  | 0 => rfl
  | n + 1 => by rw [List.replicate_succ, List.flatten_cons, rep_one x n]; rfl
section
variable {P : Program} {w : World} {K : PySem.W.Frag} {mg : Str → Option Value} {base : Heap} {N : List Str} {sc : Scope} {k : Nat}
variable {X : Cx} {e a b : Expr} {es : List Expr} {A : List C} {pos p p2 : Pos} {x : Str}
theorem ev_repT {ds : List PyData} {n : Int} (h1 : Ev X A a (.dat (.tuple ds))) (h2 : Ev X A b (.dat (.int n))) (hne : ds ≠ []) (h0 : 0 ≤ n) (hn : n ≤ 1000) (hz : ds.length ≤ 1000) : Ev X A (.BinOp a .Mult b pos) (.dat (.tuple (List.replicate n.toNat ds).flatten)) :=
  ev_op op_repA h1 h2 fun I H v w s h1 h2 Q q => by
    obtain ⟨p, xs, rfl, hx, ha⟩ := dp_tup h1
    refine ⟨p, n, xs, rfl, dp_int h2, same_t s hx, fun e0 => ?_, h0, hn, by rw [dpAll_len ha]; exact hz, fun e1 => ?_, fun _ l hl => ?_⟩
    · subst e0
      cases ha
      exact hne rfl
    · subst e1
      refine q _ I H (.refl s) ?_
      have e : (List.replicate (1 : Int).toNat ds).flatten = ds := by simp
      rw [e]
      exact h1
    · have g2 := Grow.new (o := .tup (List.replicate n.toNat xs).flatten) s hl
      exact q _ _ _ g2 (.tup upd_same (dpAll_mono g2.ii (dpAll_rep ha _)))
/-- (c,) * n -/
theorem ev_repI {c n : Int} (h1 : Ev X A a (.dat (.tuple [.int c]))) (h2 : Ev X A b (.dat (.int n))) (h0 : 0 ≤ n) (hn : n ≤ 1000) : Ev X A (.BinOp a .Mult b pos) (.dat (tI (List.replicate n.toNat c))) :=
  ev_eq (ev_repT h1 h2 (by simp) h0 hn (by simp)) (by rw [rep_one]; simp [tI])
theorem ev_repL {ds : List PyData} {n : Int} (h1 : EvL X A a ds) (h2 : Ev X A b (.dat (.int n))) (h0 : 0 ≤ n) (hn : n ≤ 1000) (hz : ds.length ≤ 1000) : Ev X A (.BinOp a .Mult b pos) (.own (.lst (List.replicate n.toNat ds).flatten)) := fun I0 H0 σ I H rl Q q =>
  wx_of (pe_op op_rep wx_pe wx_pe) (h1 I0 H0 σ I H rl _ fun p xs I1 H1 g1 hp ha => h2 I0 H0 σ I1 H1 (rl.grow g1) _ fun v I2 H2 g2 hv =>
    ⟨p, n, xs, rfl, dp_int hv, g2.hh _ _ hp, by omega, by omega, by
      rw [dpAll_len ha, sizeLine_eq]
      have := Nat.mul_le_mul hz (show n.toNat ≤ 1000 by omega)
      omega, fun l hl => by
      have g3 := Grow.newH (o := .lst (List.replicate n.toNat xs).flatten) g2.ih hl
      exact q _ _ _ ((g1.trans g2).trans g3) ⟨l, _, rfl, (g1.trans g2).hh.free hl, g2.ih.free hl, upd_same, dpAll_rep (dpAll_mono g2.ii ha) _⟩⟩)
theorem ev_repLI {c n : Int} (h1 : EvL X A a [.int c]) (h2 : Ev X A b (.dat (.int n))) (h0 : 0 ≤ n) (hn : n ≤ 1000) : Ev X A (.BinOp a .Mult b pos) (.own (.lst ((List.replicate n.toNat c).map .int))) :=
  ev_eq (ev_repL h1 h2 h0 hn (by simp)) (by rw [rep_one, List.map_replicate])

/-- the def's own list at name j has become another -/
theorem rel_mut {K : PySem.W.Frag} {I0 H0 I H : Hp} {A : List C} {σ : L2.St} (r1 : Rel K I0 H0 A σ I H) {j : Nat} {q : Addr} {b b' : Ob} {o : HO} (hA : A[j]? = some (.own b)) (e1 : σ[j]? = some (some (.ref q))) (n0 : H0 q = none) (n1 : I q = none) (hb : ObAt K I o b') :
    Rel K I0 H0 (A.set j (.own b')) σ I (upd H q o) := by
  have hj : j < A.length := by
    by_cases hj : j < A.length
    · exact hj
    · rw [List.getElem?_eq_none (by omega)] at hA; cases hA
  refine ⟨r1.gr.mut n0 n1, by rw [List.length_set]; exact r1.len, fun i c hc => ?_, fun i i' r ne o1 o2 h => ?_⟩
  · by_cases hi : j = i
    · subst hi
      rw [List.getElem?_set_self hj] at hc
      cases hc
      exact ⟨q, _, e1, n0, n1, upd_same, hb⟩
    · rw [List.getElem?_set_ne hi] at hc
      have z := r1.cell i c hc
      cases c with
      | un => trivial
      | rf a => exact z
      | tpo ds es => trivial
      | kn a d => exact z
      | dat d => exact z
      | own b =>
        obtain ⟨q2, o2, e2, m0, m, ho2, hb2⟩ := z
        refine ⟨q2, o2, e2, m0, m, ?_, hb2⟩
        have hne : q2 ≠ q := fun z => by
          subst z
          exact r1.apart j i q2 hi (by rw [hA]; trivial) (by rw [hc]; trivial) e1 e2
        rw [upd_ne hne]
        exact ho2
  · have key : ∀ i : Nat, isOwn (A.set j (.own b'))[i]? → isOwn A[i]? := fun i o => by
      by_cases hi : j = i
      · subst hi; rw [hA]; trivial
      · rw [List.getElem?_set_ne hi] at o; exact o
    exact r1.apart i i' r ne (key i o1) (key i' o2) h
variable (hX : XF P w K mg base N sc k X)
include hX
/-- xs[i] = e, xs the def's own list -/
theorem putF (j : Nat) {ds : List PyData} {d : PyData} {i : Int} {ix : Expr} {p3 p4 : Pos} (hN : N[j]? = some x) (hA : A[j]? = some (.own (.lst ds))) (hv : Vis sc x) (he : Ev X A e (.dat d)) (hi : Ev X A ix (.dat (.int i))) (h0 : 0 ≤ i) (h1 : i < ds.length) (hd : (x == ("__debug__" : Str)) = false) (hcd : (x == ("__classdict__" : Str)) = false)
    (ha : ∀ v, assign (.Subscript (.Name x p3) ix p4) X.env v = (do
      let ov ← holding [v] (eval (.Name x p3) X.env)
      let iv ← holding [v, ov] (eval ix X.env)
      standAt p4
      holding [v, ov, iv] (setItem ov iv v)
      release [v, ov, iv] []) := by intro _; rfl)
    (hs : swapsWithSole [.Subscript (.Name x p3) ix p4] e pos.line X.env = pure false := by rfl) (hw : swappedStores [.Subscript (.Name x p3) ix p4] e X.env = pure none := by rfl) :
    S1 X A (.Assign [.Subscript (.Name x p3) ix p4] e pos) (.nx (A.set j (.own (.lst (ds.set i.toNat d))))) := fun I0 H0 σ I H rl D f => by
  obtain ⟨q, o, e1, n0, n, ho, hb⟩ := rl.cell j _ hA
  obtain ⟨vs, rfl, hv1⟩ := obAt_lst hb
  refine ws_of (ps_asg wx_pe (pg_sub (pe_var (by rw [hX.eN]; exact hN) (hX.vis hv) hd hcd) wx_pe set_list ha) hs hw) ?_
  refine he I0 H0 σ I H rl _ fun v I1 H1 g1 hd1 => ⟨.ref q, e1, ?_⟩
  refine hi I0 H0 σ I1 H1 (rl.grow g1) _ fun u I2 H2 g2 hu => ?_
  have g := g1.trans g2
  have n1 := g.nw q _ ho n
  refine ⟨q, vs, i, i.toNat, rfl, dp_int hu, g.hh _ _ ho, ?_, ?_⟩
  · unfold ixN
    rw [dpAll_len hv1, if_pos h0, if_pos h1]
  · exact f σ I2 _ g.ii (rel_mut (rl.grow g) hA e1 n0 n1 (dpAll_set (dp_mono g2.ii hd1) _ (dpAll_mono g.ii hv1)))
/-- a, b, .. = a list -/
theorem unpL {js : List Nat} {ds : List PyData} {A' : List C} {tgs : List Expr} {kk} (hg : PGs X tgs (gNames js)) (he : EvS X A e true ds) (hu : uNames js A ds A') (hlen : (assignEach tgs X.env).length = js.length := by rfl) (hst : (assignEach tgs X.env).findIdx? (·.1) = none := by rfl)
    (hs : swapsWithSole [.Tuple tgs kk p2] e pos.line X.env = pure false := by rfl) (hw : swappedStores [.Tuple tgs kk p2] e X.env = pure none := by rfl) : S1 X A (.Assign [.Tuple tgs kk p2] e pos) (.nx A') := fun I0 H0 σ I H rl D f =>
  ws_of (ps_asg wx_pe (pg_lst hX.calm hg hlen hst) hs hw) (he I0 H0 σ I H rl _ fun p vs I1 H1 g hk ha =>
    ⟨p, vs, rfl, hk, by rw [dpAll_len ha, uNames_len hu], tg_names hu (rl.grow g) ha _ fun σ' r' => f σ' I1 H1 g.ii r'⟩)
/-- a, b, .. = a tuple -/
theorem unpT {js : List Nat} {ds : List PyData} {A' : List C} {tgs : List Expr} {kk} (hg : PGs X tgs (gNames js)) (he : Ev X A e (.dat (.tuple ds))) (hu : uNames js A ds A') (hlen : (assignEach tgs X.env).length = js.length := by rfl) (hst : (assignEach tgs X.env).findIdx? (·.1) = none := by rfl)
    (hs : swapsWithSole [.Tuple tgs kk p2] e pos.line X.env = pure false := by rfl) (hw : swappedStores [.Tuple tgs kk p2] e X.env = pure none := by rfl) : S1 X A (.Assign [.Tuple tgs kk p2] e pos) (.nx A') := fun I0 H0 σ I H rl D f =>
  ws_of (ps_asg wx_pe (pg_tup hX.calm hg hlen hst) hs hw) (he I0 H0 σ I H rl _ fun v I1 H1 g hv => by
    obtain ⟨p, vs, rfl, hk, ha⟩ := dp_tup (show Dp X.K I1 v (.tuple ds) from hv)
    exact ⟨p, vs, rfl, same_t g.ih hk, by rw [dpAll_len ha, uNames_len hu], tg_names hu (rl.grow g) ha _ fun σ' r' => f σ' I1 H1 g.ii r'⟩)
end
end LR

set_option Elab.async false
set_option linter.all false
set_option maxRecDepth 100000
set_option maxHeartbeats 4000000
/-! The layer LR, part j: equal data, sums of written and other tuples, ranges by steps. -/
namespace LR
open PySem PySem.Spec PyProof.Rows L2

/-- an encoding of a type as data: it may be compared, and comparing tells equality -/
structure Enc {α : Type} [DecidableEq α] (enc : α → PyData) (d : Nat) : Prop where
  lay : ∀ x, (enc x).canLay0 = true
  dep : ∀ x, (enc x).depth ≤ d
  eqv : ∀ x y, PyData.eqv (enc x) (enc y) = decide (x = y)
section
variable {α : Type} [DecidableEq α] {enc : α → PyData} {d : Nat}
theorem Enc.layAll (h : Enc enc d) : ∀ xs : List α, PyData.canLayAll0 (xs.map enc) = true
  | [] => by simp [PyData.canLayAll0]
  | x :: r => by rw [List.map_cons]; simp only [PyData.canLayAll0, h.lay x, Bool.true_and]; exact h.layAll r
theorem Enc.depAll (h : Enc enc d) : ∀ xs : List α, PyData.depthAll (xs.map enc) ≤ d
  | [] => by simp [PyData.depthAll]
  | x :: r => by rw [List.map_cons]; simp only [PyData.depthAll]; have := h.depAll r; have := h.dep x; omega
theorem Enc.eqvAll (h : Enc enc d) : ∀ xs ys : List α, PyData.eqvAll (xs.map enc) (ys.map enc) = decide (xs = ys)
  | [], [] => by simp [PyData.eqvAll]
  | [], y :: ys => by simp [PyData.eqvAll]
  | x :: xs, [] => by simp [PyData.eqvAll]
  | x :: xs, y :: ys => by
    rw [List.map_cons, List.map_cons]
    simp only [PyData.eqvAll, h.eqv x y, h.eqvAll xs ys]
    by_cases e1 : x = y <;> by_cases e2 : xs = ys <;> simp [e1, e2]
theorem Enc.tup (h : Enc enc d) : Enc (fun xs : List α => PyData.tuple (xs.map enc)) (d + 1) where
  lay := fun xs => by simp only [PyData.canLay0]; exact h.layAll xs
  dep := fun xs => by simp only [PyData.depth]; have := h.depAll xs; omega
  eqv := fun xs ys => by simp only [PyData.eqv]; exact h.eqvAll xs ys
theorem Enc.lst (h : Enc enc d) : Enc (fun xs : List α => PyData.list (xs.map enc)) (d + 1) where
  lay := fun xs => by simp only [PyData.canLay0]; exact h.layAll xs
  dep := fun xs => by simp only [PyData.depth]; have := h.depAll xs; omega
  eqv := fun xs ys => by simp only [PyData.eqv]; exact h.eqvAll xs ys
theorem Enc.shaped (h : Enc enc d) (hd : d ≤ 64) (x : α) : SeqAt.shaped (enc x) = true := by
  unfold SeqAt.shaped
  rw [h.lay x, Bool.true_and]
  exact decide_eq_true (Nat.le_trans (h.dep x) hd)
end
theorem encInt : Enc PyData.int 0 where
  lay := fun x => by simp [PyData.canLay0]
  dep := fun x => by simp [PyData.depth]
  eqv := fun x y => by simp only [PyData.eqv]; rfl
theorem encI : Enc tI 1 := encInt.tup
theorem encT : Enc tT 2 := encI.tup
section
variable {P : Program} {w : World} {K : PySem.W.Frag} {mg : Str → Option Value} {base : Heap} {N : List Str} {sc : Scope} {k : Nat}
variable {X : Cx} {e a b : Expr} {es : List Expr} {A : List C} {pos p p2 : Pos} {x : Str}
/-! the last item -/
theorem atLast {α : Type} {xs : List α} (z : α) (h : 0 < xs.length) : atI xs (-1) = some (xs.getD (xs.length - 1) z) := by
  unfold atI ixN
  rw [if_neg (by omega), if_pos (by omega)]
  have e : (-1 + (xs.length : Int)).toNat = xs.length - 1 := by omega
  show xs[(-1 + (xs.length : Int)).toNat]? = _
  rw [e, List.getD_eq_getElem?_getD, List.getElem?_eq_getElem (by omega)]
  rfl
theorem ixLastI {xs : List Int} (h : 0 < xs.length) : IxD (xs.map .int) (-1) (.int (xs.getD (xs.length - 1) 0)) := .lit (by
  have q := atLast (xs := xs.map PyData.int) (.int 0) (by simpa using h)
  rw [q]
  congr 1
  rw [List.length_map, List.getD_eq_getElem?_getD, List.getD_eq_getElem?_getD, List.getElem?_map, List.getElem?_eq_getElem (by omega)]
  rfl)
variable (hX : XF P w K mg base N sc k X)
include hX
theorem cmpEq {α : Type} [DecidableEq α] {enc : α → PyData} {d : Nat} (h : Enc enc d) (hd : d ≤ 64) {x y : α} : CmpR X .Eq b (enc x) (enc y) (decide (x = y)) := (cmpR_eqD hX.room (h.shaped hd x) (h.shaped hd y)).eq (h.eqv x y)
theorem cmpNe {α : Type} [DecidableEq α] {enc : α → PyData} {d : Nat} (h : Enc enc d) (hd : d ≤ 64) {x y : α} : CmpR X .NotEq b (enc x) (enc y) (!decide (x = y)) := (cmpR_neD hX.room (h.shaped hd x) (h.shaped hd y)).eq (by rw [h.eqv x y])
theorem cmpEqI {x y : List Int} : CmpR X .Eq b (tI x) (tI y) (decide (x = y)) := cmpEq hX encI (by decide)
theorem cmpNeI {x y : List Int} : CmpR X .NotEq b (tI x) (tI y) (!decide (x = y)) := cmpNe hX encI (by decide)
theorem cmpEqT {x y : List (List Int)} : CmpR X .Eq b (tT x) (tT y) (decide (x = y)) := cmpEq hX encT (by decide)
theorem cmpNeT {x y : List (List Int)} : CmpR X .NotEq b (tT x) (tT y) (!decide (x = y)) := cmpNe hX encT (by decide)
/-! range(lo, hi, c) -/
theorem range3F {tg : Expr} {lo hi c : Int} {n : Nat} {ea eb ec : Expr} (hg : GlS sc "range") (hm : mg "range" = none) (h : EvA X A [ea, eb, ec] [.int lo, .int hi, .int c]) (hc : c ≠ 0) (hc2 : c.natAbs < 1073741824) (hs : Builtin.Range.small lo hi c = true) (hn : Builtin.Range.rangeSize lo hi c = n)
    (hs1 : starEach [ea, eb, ec] X.env = (false, eval ea X.env) :: starEach [eb, ec] X.env := by rfl) (hpl : (backTo pos (starEach [eb, ec] X.env)).any (·.1) = false := by rfl) :
    EvI X A tg (.Call (.Name "range" p) [ea, eb, ec] [] pos) ((List.range n).map fun i : Nat => .int (lo + i * c)) :=
  ⟨_, pi_range3 (hX.gl hg) (by rw [hX.eM]; exact hm) wa_pa hs1 hpl, fun I0 H0 σ I H rl R q => h I0 H0 σ I H rl _ fun vs I1 H1 g hv => by
    cases hv with
    | cons a1 a2 => cases a2 with
      | cons a2 a3 => cases a3 with
        | cons a3 a4 =>
          cases a4
          refine ⟨lo, hi, c, n, by rw [dp_int a1, dp_int a2, dp_int a3], ⟨hc, hc2, hs, hn⟩, q _ I1 H1 g ⟨fun i d e I2 H2 s1 s2 => ?_, fun I2 H2 s1 s2 => by show n ≤ _; simp⟩⟩
          rw [List.getElem?_map] at e
          by_cases hi : i < n
          · rw [List.getElem?_range hi] at e
            refine ⟨hi, fun x H3 ⟨e3, f⟩ => ?_⟩
            subst e3 f
            simp at e
            subst e
            exact ⟨I2, .refl s2, .int _⟩
          · rw [List.getElem?_eq_none (by simpa using hi)] at e
            cases e⟩
end
/-- steps that go up within small bounds -/
theorem size_up {a b c : Int} (hc : 0 < c) : Builtin.Range.rangeSize a b c = ((b - a + c - 1) / c).toNat := by
  unfold Builtin.Range.rangeSize
  rw [if_pos hc]
  by_cases h : a < b
  · rw [if_pos h]
    have e : b - a + c - 1 = (b - a - 1) + c * 1 := by omega
    rw [e, Int.add_mul_ediv_left _ _ (by omega)]
    have : 0 ≤ (b - a - 1) / c := Int.ediv_nonneg (by omega) (by omega)
    omega
  · rw [if_neg h]
    have h2 : (b - a + c - 1) / c < 1 := Int.ediv_lt_of_lt_mul hc (by omega)
    omega
theorem small_up {a b c : Int} (ha : -1000000 ≤ a) (ha' : a ≤ 1000000) (hb : -1000000 ≤ b) (hb' : b ≤ 1000000) (hc : 0 < c) (hc' : c ≤ 1000000) : Builtin.Range.small a b c = true := by
  have h1 : Builtin.Range.rangeSize a b c ≤ 2000001 ∧ 0 ≤ Builtin.Range.rangeSize a b c := by
    unfold Builtin.Range.rangeSize
    rw [if_pos hc]
    split
    · have h0 : 0 ≤ (b - a - 1) / c := Int.ediv_nonneg (by omega) (by omega)
      have h2 : (b - a - 1) / c ≤ b - a - 1 := Int.ediv_le_self _ (by omega)
      omega
    · omega
  unfold Builtin.Range.small
  generalize Builtin.Range.rangeSize a b c = n at *
  simp only [Builtin.Range.rangeFitsLong, Bool.and_eq_true, Bool.or_eq_true, decide_eq_true_eq, beq_iff_eq, show c > 0 from hc, if_true]
  omega
end LR

set_option Elab.async false
set_option linter.all false
set_option maxRecDepth 100000
set_option maxHeartbeats 4000000
/-! The layer LR, part k: slices of lists with a step. -/
namespace LR
open PySem PySem.Spec PyProof.Rows L2

/-- xs[lo:hi:st] -/
def cutS {α : Type} (xs : List α) (lo hi st : Option Int) : List α :=
  (sliceRange (sliceBounds lo hi st xs.length).1 (sliceBounds lo hi st xs.length).2.1 (sliceBounds lo hi st xs.length).2.2).filterMap (xs[·]?)
theorem cutS_map {α β : Type} (f : α → β) (xs : List α) (lo hi st : Option Int) : cutS (xs.map f) lo hi st = (cutS xs lo hi st).map f := by
  unfold cutS
  rw [List.length_map, List.map_filterMap]
  congr 1
  funext i
  rw [List.getElem?_map]
theorem cutS_pick (its : List Value) (lo hi st : Option Int) : slicePick its.toArray lo hi st = (cutS its lo hi st).toArray := by
  unfold slicePick cutS
  rw [List.size_toArray]
  have e : (fun x : Nat => its.toArray[x]?) = fun x => its[x]? := by funext x; simp
  rw [e]
theorem vals_at : ∀ {vs : List V} {us : List Value}, Vals vs us → ∀ {i : Nat} {v : V}, vs[i]? = some v → ∃ u, us[i]? = some u ∧ RelV v u
  | _, _, .nil, _, _, e => by simp at e
  | _, _, .cons h _, 0, _, e => by simp at e; subst e; exact ⟨_, rfl, h⟩
  | _, _, .cons _ t, i + 1, d, e => by
    obtain ⟨v, h1, h2⟩ := vals_at t (i := i) (v := d) (by simpa using e)
    exact ⟨v, by simpa using h1, h2⟩
theorem pick_rel {vs : List V} {us : List Value} (r : Vals vs us) : ∀ ix : List Nat, Vals (ix.filterMap (vs[·]?)) (ix.filterMap (us[·]?))
  | [] => .nil
  | i :: ix => by
    have hl := r.length
    rw [List.filterMap_cons, List.filterMap_cons]
    by_cases h : i < vs.length
    · obtain ⟨u, e1, e2⟩ := vals_at r (List.getElem?_eq_getElem h)
      rw [List.getElem?_eq_getElem h, e1]
      exact .cons e2 (pick_rel r ix)
    · rw [List.getElem?_eq_none (by omega), List.getElem?_eq_none (by omega)]
      exact pick_rel r ix
theorem pick_dp {K : PySem.W.Frag} {H : Hp} {vs : List V} {ds : List PyData} (r : DpAll K H vs ds) : ∀ ix : List Nat, DpAll K H (ix.filterMap (vs[·]?)) (ix.filterMap (ds[·]?))
  | [] => .nil
  | i :: ix => by
    have hl := dpAll_len r
    rw [List.filterMap_cons, List.filterMap_cons]
    by_cases h : i < ds.length
    · obtain ⟨u, e1, e2⟩ := dpAll_get r (List.getElem?_eq_getElem h)
      rw [List.getElem?_eq_getElem h, e1]
      exact .cons e2 (pick_dp r ix)
    · rw [List.getElem?_eq_none (by omega), List.getElem?_eq_none (by omega)]
      exact pick_dp r ix
section
variable {X : Cx} {e lo : Expr} {te tl : TE} {A : List C}
def tStL (K : PySem.W.Frag) (te tl : TE) (st : Int) : TE := fun σ H Q => te σ H fun x H1 => tPart tl σ H1 fun o H2 => ∃ a xs, x = .ref a ∧ SqL K H2 a xs ∧ ∀ p, H2 p = none → Q (.ref p) (upd H2 p (.lst (cutS xs o none (some st))))
theorem pe_stepL {st : Int} {k} {p1 p3 pos : Pos} (h0 : st ≠ 0) (he : PE X e te) (hl : PE X lo tl) : PE X (.Subscript e (.Slice (some lo) none (some (.Constant (.int st) k p1)) p3) pos) (tStL X.K te tl st) := by
  refine ⟨fun pins s σ H Q I h => ?_⟩
  refine Subscript_ (thn (he.run pins s σ H _ I h) fun v s1 ⟨x, H1, I1, r1, q1⟩ => ?_)
  have hst : PO X (some (.Constant (.int st) k p1)) (tPart (tC (.int st))) := po_some pe_int
  refine wpAny_Slice (thn ((po_some hl).run pins s1 σ H1 _ I1 q1) fun vl s2 ⟨l, H2, I2, pl, q2⟩ => ?_)
  obtain ⟨a, xs, ex, hx, q⟩ := q2
  subst ex
  cases r1
  refine thn (po_none.run pins s2 σ H2 (fun o H3 => o = none ∧ H3 = H2) I2 ⟨rfl, rfl⟩) fun vu s3 ⟨u, H3, I3, pu, eu, e3⟩ => ?_
  subst eu e3
  refine thn (hst.run pins s3 σ H3 (fun o H4 => o = some st ∧ H4 = H3) I3 ⟨st, rfl, rfl, rfl⟩) fun vs s4 ⟨o, H4, I4, ps, eo, e4⟩ => ?_
  subst eo e4
  have I5 : Inv X pins σ H4 { s4 with heap := s4.heap.push { cls := .type "slice", data := .fields #[vl, vu, vs] } } := I4.kept (t' := s4.toks) fun b ob q => Heap.get?_push_of_some _ q
  obtain ⟨its, r, ht, hz⟩ := I5.list hx
  have hlen := r.length
  show wpAny (model X.prog X.w) X.A (subscriptTail e (.Slice (some lo) none (some (.Constant (.int st) k p1)) p3) (.ref a) (.ref s4.heap.objs.size)) (EP X pins σ Q) X.xe { s4 with heap := s4.heap.push { cls := .type "slice", data := .fields #[vl, vu, vs] } }
  refine tail_any (ops := [.ref a, .ref s4.heap.objs.size]) ht.isList.typeIs (PySem.slot_list_getitem.lookup) ?_ (by with_unfolding_all rfl)
  refine wpAny_getItem_list_slice ht.isList (Heap.IsSliceOf.new _ vl vu vs) pl pu ps (fun z => h0 (by cases z; rfl)) ?_ (by rw [List.size_toArray]; omega)
  have hsz := slicePick_size_le its.toArray l none (some st)
  rw [cutS_pick] at hsz ⊢
  rw [List.size_toArray, List.size_toArray] at hsz
  have hr : Vals (cutS xs l none (some st)) (cutS its l none (some st)) := by
    unfold cutS
    rw [hlen]
    exact pick_rel r _
  refine ⟨.ref _, _, I5.laid (t' := s4.toks) (o := .lst (cutS xs l none (some st))) (fun b ob q => Heap.get?_push_of_some _ q) (Nat.le_refl _) ?_, rfl, q _ (I5.hok.fresh (Nat.le_refl _))⟩
  exact ⟨by rw [hr.length]; omega, _, 0, hr, Heap.get?_push_size _ rfl⟩
theorem ev_stepL {l st : Int} {k} {p1 p3 pos : Pos} {ds : List PyData} (h : EvS X A e true ds) (hl : Ev X A lo (.dat (.int l))) (h0 : st ≠ 0) : Ev X A (.Subscript e (.Slice (some lo) none (some (.Constant (.int st) k p1)) p3) pos) (.own (.lst (cutS ds (some l) none (some st)))) := fun I0 H0 σ I H rl Q q =>
  wx_of (pe_stepL h0 wx_pe wx_pe) (h I0 H0 σ I H rl _ fun p vs I1 H1 g1 hk ha => hl I0 H0 σ I1 H1 (rl.grow g1) _ fun i I2 H2 g2 hi =>
    ⟨l, dp_int hi, p, vs, rfl, same_l g2.hh hk, fun r hr => by
      have g := g1.trans g2
      have g4 := Grow.newH (o := .lst (cutS vs (some l) none (some st))) g2.ih hr
      refine q _ _ _ (g.trans g4) ⟨r, _, rfl, g.hh.free hr, g2.ih.free hr, upd_same, ?_⟩
      have hd := dpAll_mono g2.ii ha
      show DpAll X.K I2 (cutS vs _ _ _) (cutS ds _ _ _)
      unfold cutS
      rw [dpAll_len hd]
      exact pick_dp hd _⟩)
end
end LR

set_option Elab.async false
set_option linter.all false
set_option maxRecDepth 100000
set_option maxHeartbeats 4000000
/-! The layer LR, part l: slices of encoded lists and tuples, great products. -/
namespace LR
open PySem PySem.Spec PyProof.Rows L2

theorem cut_range {α : Type} (xs : List α) (j k : Nat) : cut xs (some (j : Int)) (some (k : Int)) = (xs.drop j).take (k - j) := by
  unfold cut
  rw [HT.sIx_nat, HT.sIx_nat]
  by_cases h : j ≤ xs.length
  · rw [Nat.min_eq_left h]
    by_cases h2 : k ≤ xs.length
    · rw [Nat.min_eq_left h2]
    · rw [Nat.min_eq_right (by omega), List.take_of_length_le (by simp), List.take_of_length_le (by simp; omega)]
  · rw [Nat.min_eq_right (by omega : xs.length ≤ j), List.drop_eq_nil_of_le (Nat.le_refl _), List.drop_eq_nil_of_le (by omega : xs.length ≤ j)]
    simp
section
variable {X : Cx} {e lo hi : Expr} {A : List C} {pos p2 : Pos} {α : Type} {enc : α → PyData} {xs : List α}
theorem ev_takeT {i : Int} (h : Ev X A e (.dat (.tuple (xs.map enc)))) (hu : Ev X A hi (.dat (.int i))) (h0 : 0 ≤ i) : Ev X A (.Subscript e (.Slice none (some hi) none p2) pos) (.dat (.tuple ((xs.take i.toNat).map enc))) := by
  obtain ⟨k, rfl⟩ := Int.eq_ofNat_of_zero_le h0
  exact ev_eq (ev_slT h evo_none (evo_some hu)) (by rw [cut_to, Int.toNat_natCast, List.map_take])
theorem ev_dropT {i : Int} (h : Ev X A e (.dat (.tuple (xs.map enc)))) (hu : Ev X A lo (.dat (.int i))) (h0 : 0 ≤ i) : Ev X A (.Subscript e (.Slice (some lo) none none p2) pos) (.dat (.tuple ((xs.drop i.toNat).map enc))) := by
  obtain ⟨k, rfl⟩ := Int.eq_ofNat_of_zero_le h0
  exact ev_eq (ev_slT h (evo_some hu) evo_none) (by rw [cut_from, Int.toNat_natCast, List.map_drop])
theorem ev_midT {i j : Int} (h : Ev X A e (.dat (.tuple (xs.map enc)))) (hl : Ev X A lo (.dat (.int i))) (hu : Ev X A hi (.dat (.int j))) (h0 : 0 ≤ i) (h1 : 0 ≤ j) : Ev X A (.Subscript e (.Slice (some lo) (some hi) none p2) pos) (.dat (.tuple (((xs.drop i.toNat).take (j.toNat - i.toNat)).map enc))) := by
  obtain ⟨k, rfl⟩ := Int.eq_ofNat_of_zero_le h0
  obtain ⟨l, rfl⟩ := Int.eq_ofNat_of_zero_le h1
  exact ev_eq (ev_slT h (evo_some hl) (evo_some hu)) (by rw [cut_range, Int.toNat_natCast, Int.toNat_natCast, List.map_take, List.map_drop])
theorem ev_takeL {i : Int} (h : EvS X A e true (xs.map enc)) (hu : Ev X A hi (.dat (.int i))) (h0 : 0 ≤ i) : Ev X A (.Subscript e (.Slice none (some hi) none p2) pos) (.own (.lst ((xs.take i.toNat).map enc))) := by
  obtain ⟨k, rfl⟩ := Int.eq_ofNat_of_zero_le h0
  exact ev_eq (ev_slL h evo_none (evo_some hu)) (by rw [cut_to, Int.toNat_natCast, List.map_take])
theorem ev_dropL {i : Int} (h : EvS X A e true (xs.map enc)) (hu : Ev X A lo (.dat (.int i))) (h0 : 0 ≤ i) : Ev X A (.Subscript e (.Slice (some lo) none none p2) pos) (.own (.lst ((xs.drop i.toNat).map enc))) := by
  obtain ⟨k, rfl⟩ := Int.eq_ofNat_of_zero_le h0
  exact ev_eq (ev_slL h (evo_some hu) evo_none) (by rw [cut_from, Int.toNat_natCast, List.map_drop])
theorem ev_midL {i j : Int} (h : EvS X A e true (xs.map enc)) (hl : Ev X A lo (.dat (.int i))) (hu : Ev X A hi (.dat (.int j))) (h0 : 0 ≤ i) (h1 : 0 ≤ j) : Ev X A (.Subscript e (.Slice (some lo) (some hi) none p2) pos) (.own (.lst (((xs.drop i.toNat).take (j.toNat - i.toNat)).map enc))) := by
  obtain ⟨k, rfl⟩ := Int.eq_ofNat_of_zero_le h0
  obtain ⟨l, rfl⟩ := Int.eq_ofNat_of_zero_le h1
  exact ev_eq (ev_slL h (evo_some hl) (evo_some hu)) (by rw [cut_range, Int.toNat_natCast, Int.toNat_natCast, List.map_take, List.map_drop])
theorem ev_mulW {a b : Expr} {i j : Int} (h1 : Ev X A a (.dat (.int i))) (h2 : Ev X A b (.dat (.int j))) (hc : CMulW i j) : Ev X A (.BinOp a .Mult b pos) (.dat (.int (i * j))) := ev_op op_mulW h1 h2 (bI hc fun _ => .int _)
theorem ev_divW {a b : Expr} {i j : Int} (h1 : Ev X A a (.dat (.int i))) (h2 : Ev X A b (.dat (.int j))) (hc : CDivW i j) : Ev X A (.BinOp a .FloorDiv b pos) (.dat (.int (i / j))) := ev_op op_fdivW h1 h2 (bI hc fun _ => .int _)
theorem ixM {i : Int} (z : α) (h0 : 0 ≤ i) (h1 : i < xs.length) : IxD (xs.map enc) i (enc (xs.getD i.toNat z)) := .lit (by
  obtain ⟨k, rfl⟩ := Int.eq_ofNat_of_zero_le h0
  have h2 : k < xs.length := by omega
  refine atI_nat ?_
  rw [List.getElem?_map, Int.toNat_natCast, List.getElem?_eq_getElem h2, List.getD_eq_getElem?_getD, List.getElem?_eq_getElem h2]
  rfl)
end
end LR

set_option Elab.async false
set_option linter.all false
set_option maxRecDepth 100000
set_option maxHeartbeats 4000000
/-! The layer LR, part m: x in xs of encoded data, the first of a list at which a thing holds. -/
namespace LR
open PySem PySem.Spec PyProof.Rows L2

theorem find_first {α : Type} (p : α → Bool) : ∀ xs : List α, (xs.find? p = none ∧ ∀ (i : Nat) (h : i < xs.length), p xs[i] = false) ∨ ∃ (k : Nat) (h : k < xs.length), (∀ (i : Nat) (h : i < xs.length), i < k → p xs[i] = false) ∧ p xs[k] = true ∧ xs.find? p = some xs[k]
  | [] => .inl ⟨rfl, fun i h => by simp at h⟩
  | x :: r => by
    cases hx : p x with
    | true => exact .inr ⟨0, by simp, fun i _ h => by omega, hx, by rw [List.find?_cons, hx]; rfl⟩
    | false =>
      rcases find_first p r with ⟨a, b⟩ | ⟨k, hk, a, b, c⟩
      · refine .inl ⟨by rw [List.find?_cons, hx]; exact a, fun i h => ?_⟩
        cases i with
        | zero => exact hx
        | succ i => exact b i (by simpa using h)
      · refine .inr ⟨k + 1, by simpa using hk, fun i h hi => ?_, b, by rw [List.find?_cons, hx]; exact c⟩
        cases i with
        | zero => exact hx
        | succ i => exact a i (by simpa using h) (by omega)
section
variable {X : Cx} {a b : Expr} {A : List C} {pos : Pos}
theorem any_eqv {α : Type} [DecidableEq α] {enc : α → PyData} {dd : Nat} (E : Enc enc dd) (x : α) (xs : List α) : ((xs.map enc).any fun z => PyData.eqv z (enc x)) = decide (x ∈ xs) := by
  rw [Bool.eq_iff_iff, List.any_eq_true, decide_eq_true_eq]
  constructor
  · rintro ⟨z, hz, e⟩
    obtain ⟨y, hy, rfl⟩ := List.mem_map.mp hz
    rw [E.eqv, decide_eq_true_eq] at e
    rw [← e]; exact hy
  · exact fun h => ⟨enc x, List.mem_map.mpr ⟨x, h, rfl⟩, by rw [E.eqv]; exact decide_eq_true rfl⟩
theorem cmpR_in {α : Type} [DecidableEq α] {enc : α → PyData} {dd : Nat} {k : Nat} {x : α} {xs : List α} (hr : Room k X.A) (E : Enc enc dd) (hd : dd ≤ 62) (hm : behindInMarks .In b = false := by rfl) : CmpR X .In b (enc x) (.list (xs.map enc)) (decide (x ∈ xs)) :=
  ⟨_, op_inD (by have := hr.un; omega), bin_val fun I H v w s h1 h2 Q q => ⟨enc x, xs.map enc, (dp_mono s h1).kit (E.shaped (by omega) x), (dp_mono s h2).kit (E.lst.shaped (by omega) xs), E.shaped (by omega) x, E.lst.shaped (by omega) xs, q _ (by rw [any_eqv E]; exact .bl _)⟩, hm⟩
theorem cmpR_nin {α : Type} [DecidableEq α] {enc : α → PyData} {dd : Nat} {k : Nat} {x : α} {xs : List α} (hr : Room k X.A) (E : Enc enc dd) (hd : dd ≤ 62) (hm : behindInMarks .NotIn b = false := by rfl) : CmpR X .NotIn b (enc x) (.list (xs.map enc)) (!decide (x ∈ xs)) :=
  ⟨_, op_notInD (by have := hr.un; omega), bin_val fun I H v w s h1 h2 Q q => ⟨enc x, xs.map enc, (dp_mono s h1).kit (E.shaped (by omega) x), (dp_mono s h2).kit (E.lst.shaped (by omega) xs), E.shaped (by omega) x, E.lst.shaped (by omega) xs, q _ (by rw [any_eqv E]; exact .bl _)⟩, hm⟩
def isNone : PyData → Bool
  | .none => true
  | _ => false
theorem dp_isN {K : PySem.W.Frag} {H : Hp} {v : V} {d : PyData} (h : Dp K H v d) : decide (v = .non) = isNone d := by
  cases h <;> simp [isNone]
theorem cmpR_isN {d : PyData} : CmpR X .Is b d .none (isNone d) := ⟨_, op_isN, bin_val fun I H v w s h1 h2 Q q => ⟨dp_none h2, by rw [dp_isN h1]; exact q _ (.bl _)⟩, nomark _⟩
theorem cmpR_notN {d : PyData} : CmpR X .IsNot b d .none (!isNone d) := ⟨_, op_notN, bin_val fun I H v w s h1 h2 Q q => ⟨dp_none h2, by rw [dp_isN h1]; exact q _ (.bl _)⟩, nomark _⟩
end
end LR

set_option Elab.async false
set_option linter.all false
set_option maxRecDepth 100000
set_option maxHeartbeats 4000000
/-! The layer LR, part n: a, b = x, y of names; an expression alone; reversed tuples; zip of tuples; the first turn at which a test fails. -/
namespace LR
open PySem PySem.Spec PyProof.Rows L2

/-- the first place at which p fails -/
theorem first_not (p : Nat → Bool) : ∀ m : Nat, p m = false → ∃ k, k ≤ m ∧ (∀ i, i < k → p i = true) ∧ p k = false
  | 0, h => ⟨0, Nat.le_refl _, fun i hi => absurd hi (Nat.not_lt_zero _), h⟩
  | m + 1, h => by
    cases h0 : p 0 with
    | false => exact ⟨0, Nat.zero_le _, fun i hi => absurd hi (Nat.not_lt_zero _), h0⟩
    | true =>
      obtain ⟨k, a, b, c⟩ := first_not (fun i => p (i + 1)) m h
      refine ⟨k + 1, by omega, fun i hi => ?_, c⟩
      cases i with
      | zero => exact h0
      | succ i => exact b i (by omega)
theorem swp {x y : Str} {f g : Expr} {px py pt pt2 : Pos} {kt k2} (env : Env) (hxy : (y == x) = false) (hl : (py.line == px.line) = true) (hf : ∀ v q, f ≠ .Starred v q) (hg : ∀ v q, g ≠ .Starred v q)
  (h1 : [f, g].all (foldedForSure 8) = false) (h2 : [f, g].all (constantsAlone 8) = false) (hb : env.blockKind = .function) (kx : env.kindOf x = some .local) (ky : env.kindOf y = some .local) : swappedStores [.Tuple [.Name x px, .Name y py] kt pt] (.Tuple [f, g] k2 pt2) env = pure (some [x, y]) := by
  have e1 : (x == y) = false := by
    rw [beq_eq_false_iff_ne] at hxy ⊢
    exact fun z => hxy z.symm
  have e2 : (env.blockKind != .function) = false := by rw [hb]; rfl
  have e3 : ([x, y] : List Str).eraseDups = [x, y] := by
    simp [List.eraseDups_cons, hxy, e1]
  unfold swappedStores
  simp only [List.length_cons, List.length_nil, e2, List.filterMap_cons, List.filterMap_nil, kx, ky, hl, Expr.pos, List.head?_cons, Option.map_some, Option.getD_some, beq_self_eq_true, Bool.and_self, Bool.true_and, if_true, e3, h1, h2, bne_self_eq_false, Bool.or_false, Bool.not_true, Bool.or_self, Bool.false_eq_true, if_false, Nat.zero_add, Nat.reduceAdd]
  split
  · next h => exact absurd h (by decide)
  · split
    · next h =>
      rw [List.any_eq_true] at h
      obtain ⟨z, hz, h⟩ := h
      split at h
      · rcases List.mem_cons.mp hz with q | q
        · exact absurd q.symm (hf _ _)
        · exact absurd (List.mem_singleton.mp q).symm (hg _ _)
      · cases h
    · rfl
section
variable {P : Program} {w : World} {K : PySem.W.Frag} {mg : Str → Option Value} {base : Heap} {N : List Str} {sc : Scope} {k : Nat}
variable {X : Cx} {e a b : Expr} {es : List Expr} {A : List C} {pos p p2 : Pos} {x y : Str}
theorem walks_revT {K : PySem.W.Frag} {I1 : Hp} {q : Addr} {vs : List V} {src : List PyData} (hs : SqT K I1 q vs) (ha : DpAll K I1 vs src) : Walks K (RT.ItvT K q vs.length) I1 src.reverse := by
  have hl := dpAll_len ha
  refine ⟨fun i d e I2 H2 s1 s2 => ?_, fun I2 H2 s1 s2 => by show vs.length ≤ _; rw [List.length_reverse, hl]; exact Nat.le_refl _⟩
  have hi : i < src.length := by
    by_cases h : i < src.length
    · exact h
    · rw [List.getElem?_eq_none (by rw [List.length_reverse]; omega)] at e; cases e
  rw [List.getElem?_reverse hi] at e
  obtain ⟨v, e1, e2⟩ := dpAll_get ha e
  rw [← hl] at e1
  refine ⟨⟨by omega, vs, v, same_t (s1.trans s2) hs, e1⟩, fun z H3 ⟨e3, f⟩ => ?_⟩
  subst e3
  have e4 : z = v := Option.some.inj ((f _ (same_t (s1.trans s2) hs)).symm.trans e1)
  subst e4
  exact ⟨I2, .refl s2, dp_mono s1 e2⟩
theorem ei_revT {tg : Expr} {src : List PyData} (hg : Gl X "reversed") (hm : X.mg "reversed" = none) (h : Ev X A e (.dat (.tuple src))) (hs : starEach (e :: []) X.env = (false, eval e X.env) :: starEach [] X.env := by rfl) : EvI X A tg (.Call (.Name "reversed" p) [e] [] pos) src.reverse := ⟨_, RT.pi_revA hg hm wx_pe (hs := hs), fun I0 H0 σ I H rl R q => h I0 H0 σ I H rl _ fun v I1 H1 g hv => by
  obtain ⟨a, vs, rfl, hs, ha⟩ := dp_tup (show Dp X.K I1 v (.tuple src) from hv)
  exact ⟨a, vs, rfl, .inr ⟨same_t g.ih hs, q _ I1 H1 g (walks_revT hs ha)⟩⟩⟩
/-- an expression alone -/
theorem s1_expr {c : C} (h : Ev X A e c) (hs : swapsWith e none pos.line X.env = pure false := by rfl) : S1 X A (.Expr e pos) (.nx A) := fun I0 H0 σ I H rl D f =>
  ws_of (ps_expr wx_pe hs) (h I0 H0 σ I H rl _ fun v I1 H1 g _ => f σ I1 H1 g.ii (rl.grow g))
variable (hX : XF P w K mg base N sc k X)
include hX
theorem revTF {tg : Expr} {α : Type} {enc : α → PyData} {xs : List α} (hg : GlS sc "reversed") (hm : mg "reversed" = none) (h : Ev X A e (.dat (.tuple (xs.map enc)))) (hs : starEach (e :: []) X.env = (false, eval e X.env) :: starEach [] X.env := by rfl) : EvI X A tg (.Call (.Name "reversed" p) [e] [] pos) (xs.reverse.map enc) := by
  rw [List.map_reverse]
  exact ei_revT (hX.gl hg) (by rw [hX.eM]; exact hm) h hs
/-- a, b = e, f of two names -/
theorem parF {i j : Nat} {f g : Expr} {d1 d2 : PyData} {px py pt pt2 : Pos} {kt k2} (hi : N[i]? = some x) (hj : N[j]? = some y) (hij : i ≠ j) (hx : sc.names.lookup x = some .local) (hy : sc.names.lookup y = some .local) (ha : EvA X A [f, g] [d1, d2]) (hAi : A[i]?.isSome = true) (hAj : A[j]?.isSome = true)
    (hk : sc.kind = .function) (hxy : (y == x) = false) (hl : (py.line == px.line) = true) (hf : ∀ v q, f ≠ .Starred v q) (hg : ∀ v q, g ≠ .Starred v q) (h1 : [f, g].all (foldedForSure 8) = false) (h2 : [f, g].all (constantsAlone 8) = false)
    (hs : swapsWithSole [.Tuple [.Name x px, .Name y py] kt pt] (.Tuple [f, g] k2 pt2) pos.line X.env = pure false := by rfl) :
    S1 X A (.Assign [.Tuple [.Name x px, .Name y py] kt pt] (.Tuple [f, g] k2 pt2) pos) (.nx ((A.set i (.dat d1)).set j (.dat d2))) := fun I0 H0 σ I H rl D fn =>
  ws_of (ps_par hX.calm hX.ndX (by rw [hX.eN]; exact hi) (by rw [hX.eN]; exact hj) hij (by rw [hX.eS]; exact hx) (by rw [hX.eS]; exact hy) wa_pa (swp X.env hxy hl hf hg h1 h2 (by unfold Env.blockKind; rw [hX.eS, hk]; rfl) (by unfold Env.kindOf; rw [hX.eS]; exact hx) (by unfold Env.kindOf; rw [hX.eS]; exact hy)) hs) (ha I0 H0 σ I H rl _ fun vs I1 H1 g hv => by
    cases hv with
    | cons h1 h2 => cases h2 with
      | cons h2 h3 =>
        cases h3
        refine ⟨_, _, rfl, fn _ I1 H1 g.ii ?_⟩
        have r1 := rel_set (rl.grow g) h1 (lt_of_some hAi)
        refine rel_set r1 h2 ?_
        rw [List.length_set]
        exact lt_of_some hAj)
end
end LR

set_option Elab.async false
set_option linter.all false
set_option maxRecDepth 100000
set_option maxHeartbeats 4000000
/-! The layer LR, part o: try .. except X as e, isinstance of the caught one. -/
namespace LR
open PySem PySem.Spec PyProof.Rows L2

/-- isinstance(e, (X, ..)), e the exception that the suite holds -/
def rIsE2 (K : PySem.W.Frag) (D a : Addr) : List V → Hp → VK → Prop := fun xs H Q => ∃ (tp : Addr) (vs : List V) (b : Bool), xs = [.ref a, .ref tp] ∧ SqT K H tp vs ∧ (∀ us, Vals vs us → PySem.W.kitAny K (.ref D) us = some b) ∧ Q (.bl b) H
theorem call_isE2 {X : Cx} {a D : Addr} {oe : Obj} {pn : List (Addr × Obj)} (C : ExcC X.K D) (hz : Zc (.ref D) none oe) (hf : ∃ vs, oe.data = .fields vs) : CallR (X.suite a ((a, oe) :: pn)) (.builtin "isinstance") (rIsE2 X.K D a) := by
  intro pins s σ H xs us Q I r h
  obtain ⟨tp, vs, b, rfl, hT, e, q⟩ := h
  cases r with
  | cons rx rr =>
    cases rr with
    | cons rt rr =>
      cases rr
      cases rx
      cases rt
      obtain ⟨hget, _⟩ := I.pin (a, oe) (List.mem_append.mpr (.inl List.mem_cons_self))
      obtain ⟨vs', hv⟩ := hf
      have J : PySem.W.InstAt s.heap a oe D none := by
        obtain ⟨oc, od, oda, osl⟩ := oe
        obtain ⟨h1, h2⟩ := hz
        dsimp only at h1 h2 hv
        subst h1 h2 hv
        exact ⟨hget, rfl, rfl, trivial⟩
      obtain ⟨its, rv, ⟨⟨cls, dd, data, sl⟩, ho, hc, n, hd⟩, hs⟩ := I.tuple hT
      simp only at hc hd
      subst hc hd
      exact PySem.W.kia_tup (PySem.W.handS_kitx_exc C.hg C.hk C.hs C.hd C.ha C.hn C.ht C.hm) I.kIn J ho (e _ rv) (fun z => nomatch z) fun tk => ⟨.bl b, H, I.kept (t' := tk) fun _ _ z => z, rfl, q⟩
/-- what is told of a context in which an exception is handled -/
structure XS (P : Program) (w : World) (K : PySem.W.Frag) (mg : Str → Option Value) (N : List Str) (sc : Scope) (D : Addr) (a : Addr) (X : Cx) : Prop where
  eP : X.prog = P
  eW : X.w = w
  eK : X.K = K
  eM : X.mg = mg
  eN : X.N = N
  eS : X.env.scope = sc
  nd : N.Nodup
  is : CallR X (.builtin "isinstance") (rIsE K D a)
  is2 : CallR X (.builtin "isinstance") (rIsE2 K D a)
  fn : ∀ x, X.fn x = true
section
variable {P : Program} {w : World} {K : PySem.W.Frag} {mg : Str → Option Value} {base : Heap} {N : List Str} {sc : Scope} {k : Nat}
variable {X : Cx} {e a b : Expr} {es : List Expr} {A : List C} {pos p p2 : Pos} {x y : Str} {D ad : Addr}
theorem XF.tr (hX : XF P w K mg base N sc k X) {pn : List (Addr × Obj)} {xe : Value → Shared → Prop} (hp : PassesOwn (model X.prog X.w) X.A X.env xe) : XF P w K mg base N sc k (X.tr pn xe) where
  eP := hX.eP
  eW := hX.eW
  eK := hX.eK
  eM := hX.eM
  eB := hX.eB
  eN := hX.eN
  eS := hX.eS
  calm := hX.calm
  nd := hX.nd
  room := hX.room
  pass := hp
theorem XT.tr (hT : XT X) {pn : List (Addr × Obj)} {xe : Value → Shared → Prop} : XT (X.tr pn xe) := ⟨hT.stack, hT.frame, hT.fn⟩
variable (hX : XF P w K mg base N sc k X) (hT : XT X)
include hX hT
/-- a try whose body runs through -/
theorem tryN {body suite : List Stmt} {b₀ : Stmt} {np pos' : Pos} {n : Str} {i : Nat} {cl : Addr} {o : Out} (hN : N[i]? = some n) (hln : sc.names.lookup n = some .local) (hg : GlS sc x) (hm : mg x = some (.ref cl)) (hdb : (x == ("__debug__" : Str)) = false) (ho : ∀ z A1, o ≠ .ex z A1)
    (hb : ∀ Y, XF P w K mg base N sc k Y → XT Y → Sm Y A body o) : S1 X A (.Try body [.ExceptHandler (some (.Name x np)) (some n) (b₀ :: suite) pos'] [] [] pos) o := fun I0 H0 σ I H rl D f => by
  refine ws_of (ps_try_as (i := i) (tb := fun W D σ H => ∀ pn xe, Takes (X.tr pn xe) W → PassesOwn (model X.prog X.w) X.A X.env xe → Wss (X.tr pn xe) body D σ H) (ts := fun a cls d D σ H => ∀ oe pn, Zc cls d oe → (∃ vs, oe.data = .fields vs) → Wss (X.suite a ((a, oe) :: pn)) (b₀ :: suite) D σ H) (Wout := fun _ _ _ _ => False)
    hT.stack hT.frame hX.ndX (by rw [hX.eN]; exact hN) (by unfold Env.kindOf; rw [hX.eS]; exact hln) ⟨hX.gl hg, hdb, .inl (by rw [hX.eM]; exact hm)⟩ takes0 (fun W pn xe tk hp => ⟨fun pins s σ H D I h => h pn xe tk hp pins s I⟩) (fun a oe cls d pn hz hf => ⟨fun pins s σ H D I h => h oe pn hz hf pins s I⟩)) ?_
  intro pn xe tk hp
  refine hb _ (hX.tr hp) hT.tr I0 H0 σ I H rl D ?_
  cases o with
  | nx A1 => exact f
  | rt c => exact f
  | bk A1 => exact f
  | ex z A1 => exact absurd rfl (ho z A1)
/-- a try whose body raises what is caught -/
theorem tryX {body suite : List Stmt} {b₀ : Stmt} {np pos' : Pos} {n z : Str} {i : Nat} {cl D : Addr} {A1 A2 : List C} (hN : N[i]? = some n) (hln : sc.names.lookup n = some .local) (hg : GlS sc x) (hm : mg x = some (.ref cl)) (hdb : (x == ("__debug__" : Str)) = false) (hz : mg z = some (.ref D)) (he : PySem.W.exmOne K (.ref D) (.ref cl) = some true) (hE : ExcC K D) (hi : A1[i]?.isSome = true)
    (hb : ∀ Y, XF P w K mg base N sc k Y → XT Y → Sm Y A body (.ex z A1)) (hs : ∀ Y a, XS P w K mg N sc D a Y → Sm Y (A1.set i (.rf a)) (b₀ :: suite) (.nx A2)) :
    S1 X A (.Try body [.ExceptHandler (some (.Name x np)) (some n) (b₀ :: suite) pos'] [] [] pos) (.nx (A2.set i .un)) := fun I0 H0 σ I H rl Dn f => by
  refine ws_of (ps_try_as (i := i) (tb := fun W D σ H => ∀ pn xe, Takes (X.tr pn xe) W → PassesOwn (model X.prog X.w) X.A X.env xe → Wss (X.tr pn xe) body D σ H) (ts := fun a cls d D σ H => ∀ oe pn, Zc cls d oe → (∃ vs, oe.data = .fields vs) → Wss (X.suite a ((a, oe) :: pn)) (b₀ :: suite) D σ H) (Wout := fun _ _ _ _ => False)
    hT.stack hT.frame hX.ndX (by rw [hX.eN]; exact hN) (by unfold Env.kindOf; rw [hX.eS]; exact hln) ⟨hX.gl hg, hdb, .inl (by rw [hX.eM]; exact hm)⟩ takes0 (fun W pn xe tk hp => ⟨fun pins s σ H D I h => h pn xe tk hp pins s I⟩) (fun a oe cls d pn hz hf => ⟨fun pins s σ H D I h => h oe pn hz hf pins s I⟩)) ?_
  intro pn xe tk hp
  refine hb _ (hX.tr hp) hT.tr I0 H0 σ I H rl Dn ⟨_, tk, fun σ1 I1 H1 s1 r1 c hc => ?_⟩
  have hc : X.mg z = some (.ref c) := hc
  rw [hX.eM, hz] at hc
  cases hc
  refine ⟨true, by rw [hX.eK]; exact he, fun _ a ha oe pn2 hzc hf => ?_, fun q => Bool.noConfusion q⟩
  have r1 : Rel X.K I0 H0 A1 σ1 I1 H1 := r1
  have hE' : ExcC X.K D := by rw [hX.eK]; exact hE
  have xs : XS P w K mg N sc D a (X.suite a ((a, oe) :: pn2)) := ⟨hX.eP, hX.eW, hX.eK, hX.eM, hX.eN, hX.eS, hX.nd, by
    have q := call_isE (X := X) (pn := pn2) (a := a) hE' hzc hf
    rw [hX.eK] at q
    exact q, by
    have q := call_isE2 (X := X) (pn := pn2) (a := a) hE' hzc hf
    rw [hX.eK] at q
    exact q, hT.fn⟩
  refine hs _ a xs I0 H0 _ I1 H1 (rel_rf r1 (lt_of_some hi)) _ fun σ2 I2 H2 s2 r2 => ?_
  exact f _ I2 H2 (s1.trans s2) (rel_un r2)
omit hX hT
variable (hS : XS P w K mg N sc D ad X)
include hS
theorem isE_own (i : Nat) {n T : Str} {c : Addr} {bb : Bool} {p1 : Pos} (hN : N[i]? = some n) (hA : A[i]? = some (.rf ad)) (hv : Vis sc n) (hd : (n == ("__debug__" : Str)) = false) (hcd : (n == ("__classdict__" : Str)) = false) (hg : GlS sc "isinstance") (hm : mg "isinstance" = none) (hgT : GlS sc T) (hmT : mg T = some (.ref c))
    (hdT : (T == ("__debug__" : Str)) = false) (hk : PySem.W.kitOne K (.ref D) (.ref c) = some bb) (hs : starEach (.Name n p1 :: [.Name T p2]) X.env = (false, eval (.Name n p1) X.env) :: starEach [.Name T p2] X.env := by rfl) (hs2 : starEach [.Name T p2] X.env = (false, eval (.Name T p2) X.env) :: starEach [] X.env := by rfl) (hpl : (backTo pos (starEach [.Name T p2] X.env)).any (·.1) = false := by rfl)
    (hb : bootBuiltins "isinstance" = some (.builtin "isinstance") := by decide +kernel) : Ev X A (.Call (.Name "isinstance" p) [.Name n p1, .Name T p2] [] pos) (.dat (.bool bb)) := fun I0 H0 σ I H rl Q q =>
  have gl : ∀ {z : Str}, GlS sc z → Gl X z := fun h => by unfold Gl Env.kindOf; rw [hS.eS]; exact h
  wx_of (pe_callB hS.is (gl hg) (by rw [hS.eM]; exact hm) hb (pa_cons (pe_var (i := i) (by rw [hS.eN]; exact hN) (by rw [hS.eS]; exact hv) hd hcd) (pa_cons (pe_glob (v := .ref c) (gl hgT) (by rw [hS.eM]; exact hmT) rfl hdT) pa_nil hs2) hs) (by decide) (by decide) hs hpl)
    ⟨.ref ad, rl.cell i _ hA, .ref c, .ref c, bb, rfl, fun u hu => hu, hk, q _ I H (.refl rl.ih) (Dp.bl _)⟩
theorem isE_ty (i : Nat) {n : Str} {T : String} {bb : Bool} {p1 : Pos} (hN : N[i]? = some n) (hA : A[i]? = some (.rf ad)) (hv : Vis sc n) (hd : (n == ("__debug__" : Str)) = false) (hcd : (n == ("__classdict__" : Str)) = false) (hg : GlS sc "isinstance") (hm : mg "isinstance" = none) (hgT : GlS sc (Str.ofString T)) (hmT : mg (Str.ofString T) = none)
    (hbT : bootBuiltins (Str.ofString T) = some (.type T)) (hn : Str.ofString T ≠ "__name__") (hdT : (Str.ofString T == ("__debug__" : Str)) = false) (hk : PySem.W.kitOne K (.ref D) (.type T) = some bb) (hs : starEach (.Name n p1 :: [.Name (Str.ofString T) p2]) X.env = (false, eval (.Name n p1) X.env) :: starEach [.Name (Str.ofString T) p2] X.env := by rfl) (hs2 : starEach [.Name (Str.ofString T) p2] X.env = (false, eval (.Name (Str.ofString T) p2) X.env) :: starEach [] X.env := by rfl) (hpl : (backTo pos (starEach [.Name (Str.ofString T) p2] X.env)).any (·.1) = false := by rfl)
    (hb : bootBuiltins "isinstance" = some (.builtin "isinstance") := by decide +kernel) : Ev X A (.Call (.Name "isinstance" p) [.Name n p1, .Name (Str.ofString T) p2] [] pos) (.dat (.bool bb)) := fun I0 H0 σ I H rl Q q =>
  have gl : ∀ {z : Str}, GlS sc z → Gl X z := fun h => by unfold Gl Env.kindOf; rw [hS.eS]; exact h
  wx_of (pe_callB hS.is (gl hg) (by rw [hS.eM]; exact hm) hb (pa_cons (pe_var (i := i) (by rw [hS.eN]; exact hN) (by rw [hS.eS]; exact hv) hd hcd) (pa_cons (pe_bltn (v := .ty T) (gl hgT) (by rw [hS.eM]; exact hmT) hbT rfl hn hdT) pa_nil hs2) hs) (by decide) (by decide) hs hpl)
    ⟨.ref ad, rl.cell i _ hA, .ty T, .type T, bb, rfl, fun u hu => hu, hk, q _ I H (.refl rl.ih) (Dp.bl _)⟩
theorem nmS (i : Nat) {d : PyData} (hN : N[i]? = some x) (hA : A[i]? = some (.dat d)) (hv : Vis sc x) (hd : (x == ("__debug__" : Str)) = false) (hcd : (x == ("__classdict__" : Str)) = false) : Ev X A (.Name x pos) (.dat d) :=
  ev_name i (by rw [hS.eN]; exact hN) hA (by rw [hS.eS]; exact hv) hd hcd
theorem ownlS (i : Nat) {ds : List PyData} (hN : N[i]? = some x) (hA : A[i]? = some (.own (.lst ds))) (hv : Vis sc x) (hd : (x == ("__debug__" : Str)) = false) (hcd : (x == ("__classdict__" : Str)) = false) : EvL X A (.Name x pos) ds :=
  evl_own i (by rw [hS.eN]; exact hN) hA (by rw [hS.eS]; exact hv) hd hcd
theorem setS (j : Nat) {c : C} {pos' : Pos} (hN : N[j]? = some x) (hx : L2.Loc sc x) (he : Ev X A e c) (hj : A[j]?.isSome = true) (hs : swapsWith e (some (.Name x pos')) pos.line X.env = pure false := by rfl) : S1 X A (.Assign [.Name x pos'] e pos) (.nx (A.set j c)) :=
  s1_set j (by rw [hS.eN]; exact hS.nd) (by rw [hS.eN]; exact hN) (by rw [hS.eS]; exact hx) he hj rfl hs (.inl (hS.fn _))
omit hS
/-- names of classes -/
def ClsA (X : Cx) (es : List Expr) (vs : List V) : Prop := ∀ σ H (Q : List V → Hp → Prop), Q vs H → Wa X es σ H Q
theorem clsA_nil : ClsA X [] [] := fun σ H Q q => wa_of pa_nil q
include hS
theorem clsA_cons {T : Str} {c : Addr} {vs : List V} {p1 : Pos} (hgT : GlS sc T) (hmT : mg T = some (.ref c)) (hdT : (T == ("__debug__" : Str)) = false) (h : ClsA X es vs) (hs : starEach (.Name T p1 :: es) X.env = (false, eval (.Name T p1) X.env) :: starEach es X.env := by rfl) : ClsA X (.Name T p1 :: es) (.ref c :: vs) := fun σ H Q q =>
  have gl : ∀ {z : Str}, GlS sc z → Gl X z := fun h => by unfold Gl Env.kindOf; rw [hS.eS]; exact h
  wa_of (pa_cons (pe_glob (v := .ref c) (gl hgT) (by rw [hS.eM]; exact hmT) rfl hdT) wa_pa hs) (h σ H _ q)
theorem isE_tup (i : Nat) {n : Str} {vs : List V} {bb : Bool} {p1 : Pos} {k1} (hN : N[i]? = some n) (hA : A[i]? = some (.rf ad)) (hv : Vis sc n) (hd : (n == ("__debug__" : Str)) = false) (hcd : (n == ("__classdict__" : Str)) = false) (hg : GlS sc "isinstance") (hm : mg "isinstance" = none) (hc : ClsA X es vs) (hz : vs.length ≤ sizeLine)
    (hk : ∀ us, Vals vs us → PySem.W.kitAny K (.ref D) us = some bb) (hs : starEach (.Name n p1 :: [.Tuple es k1 p2]) X.env = (false, eval (.Name n p1) X.env) :: starEach [.Tuple es k1 p2] X.env := by rfl) (hs2 : starEach [.Tuple es k1 p2] X.env = (false, eval (.Tuple es k1 p2) X.env) :: starEach [] X.env := by rfl) (hpl : (backTo pos (starEach [.Tuple es k1 p2] X.env)).any (·.1) = false := by rfl)
    (hb : bootBuiltins "isinstance" = some (.builtin "isinstance") := by decide +kernel) : Ev X A (.Call (.Name "isinstance" p) [.Name n p1, .Tuple es k1 p2] [] pos) (.dat (.bool bb)) := fun I0 H0 σ I H rl Q q =>
  have gl : ∀ {z : Str}, GlS sc z → Gl X z := fun h => by unfold Gl Env.kindOf; rw [hS.eS]; exact h
  wx_of (pe_callB hS.is2 (gl hg) (by rw [hS.eM]; exact hm) hb (pa_cons (pe_var (i := i) (by rw [hS.eN]; exact hN) (by rw [hS.eS]; exact hv) hd hcd) (pa_cons (pe_tup wa_pa) pa_nil hs2) hs) (by decide) (by decide) hs hpl)
    ⟨.ref ad, rl.cell i _ hA, hc σ H _ ⟨hz, fun t ht => ⟨t, vs, bb, rfl, .inl (.inl upd_same), hk, q _ I _ (Grow.newH rl.ih ht) (Dp.bl _)⟩⟩⟩
end
/-! what the ends tell of exception classes -/
/-- instances of the class x may be asked for their class -/
def XD (K : PySem.W.Frag) (mg : Str → Option Value) (x : Str) : Prop := ∃ d, mg x = some (.ref d) ∧ ExcC K d
/-- whether an instance of x is one of y -/
def XO (K : PySem.W.Frag) (mg : Str → Option Value) (x y : Str) (b : Bool) : Prop := ∃ d c, mg x = some (.ref d) ∧ mg y = some (.ref c) ∧ PySem.W.kitOne K (.ref d) (.ref c) = some b
def XV (K : PySem.W.Frag) (mg : Str → Option Value) (x : Str) (y : String) (b : Bool) : Prop := ∃ d, mg x = some (.ref d) ∧ PySem.W.kitOne K (.ref d) (.type y) = some b
/-- except y takes x -/
def XM (K : PySem.W.Frag) (mg : Str → Option Value) (x y : Str) : Prop := ∃ d c, mg x = some (.ref d) ∧ mg y = some (.ref c) ∧ PySem.W.exmOne K (.ref d) (.ref c) = some true
end LR

set_option Elab.async false
set_option linter.all false
set_option maxRecDepth 100000
set_option maxHeartbeats 4000000
/-! The layer LR, part p: what raises within an expression. -/
namespace LR
open PySem PySem.Spec PyProof.Rows L2

/-- one of the arguments raises x -/
def EvAX (X : Cx) (A : List C) (es : List Expr) (x : Str) : Prop := ∀ I0 H0 σ I H, Rel X.K I0 H0 A σ I H → ∀ W : WX, Takes X W → (∀ I' H', Grow I H I' H' → ∀ c, X.mg x = some (.ref c) → W (.ref c) none σ H') → ∀ Q : List V → Hp → Prop, Wa X es σ H Q
section
variable {X : Cx} {e a b : Expr} {es : List Expr} {A : List C} {pos p p2 : Pos} {x y : Str}
theorem eax_here (h : EvX X A e x) (hs : starEach (e :: es) X.env = (false, eval e X.env) :: starEach es X.env := by rfl) : EvAX X A (e :: es) x := fun I0 H0 σ I H rl W tk q Q =>
  wa_of (pa_cons wx_pe wa_pa hs) (h I0 H0 σ I H rl W tk q _)
theorem eax_next {d : PyData} (h1 : Ev X A e (.dat d)) (h : EvAX X A es x) (hs : starEach (e :: es) X.env = (false, eval e X.env) :: starEach es X.env := by rfl) : EvAX X A (e :: es) x := fun I0 H0 σ I H rl W tk q Q =>
  wa_of (pa_cons wx_pe wa_pa hs) (h1 I0 H0 σ I H rl _ fun v I1 H1 g1 hv => h I0 H0 σ I1 H1 (rl.grow g1) W tk (fun I2 H2 g2 c hc => q I2 H2 (g1.trans g2) c hc) _)
theorem evx_tup {k} (h : EvAX X A es x) : EvX X A (.Tuple es k pos) x := fun I0 H0 σ I H rl W tk q Q =>
  wx_of (pe_tup wa_pa) (h I0 H0 σ I H rl W tk q _)
/-- e, alone, raises -/
theorem s1_exprX (h : EvX X A e x) (hs : swapsWith e none pos.line X.env = pure false := by rfl) : S1 X A (.Expr e pos) (.ex x A) := fun I0 H0 σ I H rl D f => by
  obtain ⟨W, tk, f⟩ := f
  exact ws_of (ps_expr wx_pe hs) (h I0 H0 σ I H rl W tk (fun I1 H1 g c hc => f σ I1 H1 g.ii (rl.grow g) c hc) _)
theorem s1_retX (h : EvX X A e x) : S1 X A (.Return (some e) pos) (.ex x A) := fun I0 H0 σ I H rl D f => by
  obtain ⟨W, tk, f⟩ := f
  exact ws_of (ps_ret wx_pe) (h I0 H0 σ I H rl W tk (fun I1 H1 g c hc => f σ I1 H1 g.ii (rl.grow g) c hc) _)
theorem s1_setX (j : Nat) {pos' : Pos} (hN : X.N.Nodup) (hi : X.N[j]? = some y) (hx : L2.Loc X.env.scope y) (h : EvX X A e x) (hs : swapsWith e (some (.Name y pos')) pos.line X.env = pure false := by rfl)
    (hf : X.fn y = true ∨ X.env.scope.names.lookup y = some .local := by first | exact .inl rfl | exact .inr rfl | assumption) : S1 X A (.Assign [.Name y pos'] e pos) (.ex x A) := fun I0 H0 σ I H rl D f => by
  obtain ⟨W, tk, f⟩ := f
  exact ws_of (ps_set hN hi hx wx_pe hs hf) (h I0 H0 σ I H rl W tk (fun I1 H1 g c hc => f σ I1 H1 g.ii (rl.grow g) c hc) _)
/-- xs.append(e), e raises -/
theorem s1_appX (j : Nat) {z : Str} {ds : List PyData} {p3 p4 : Pos} (hN : X.N[j]? = some z) (hA : A[j]? = some (.own (.lst ds))) (hv : Vis X.env.scope z) (h : EvX X A e x)
    (hd : (z == ("__debug__" : Str)) = false := by decide) (hcd : (z == ("__classdict__" : Str)) = false := by decide) (hs : starEach (e :: []) X.env = (false, eval e X.env) :: starEach [] X.env := by rfl) (hpl : ((backTo p3 (starEach (e :: []) X.env)).all (fun x => !x.1) && (backToKw p3 (keywordEach [] X.env)).all (fun x => x.1.isSome) && decide (([e] : List Expr).length + ([] : List Keyword).length + (if ([] : List Keyword).isEmpty then 0 else 1) < 30)) = true := by rfl) (hline : (p2.endLine == p3.line) = true := by rfl)
    (hsw : swapsWith (.Call (.Attribute (.Name z p) "append" p2) [e] [] p3) none p4.line X.env = pure false := by rfl) : S1 X A (.Expr (.Call (.Attribute (.Name z p) "append" p2) [e] [] p3) p4) (.ex x A) := fun I0 H0 σ I H rl D f => by
  obtain ⟨W, tk, f⟩ := f
  obtain ⟨q, o, e1, n0, n, ho, hb⟩ := rl.cell j _ hA
  obtain ⟨vs, rfl, ha⟩ := obAt_lst hb
  refine ws_of (ps_expr (pe_bm PySem.F.plainAttrs_list PySem.F.slot_list_append PySem.F.type_list_append mt_append (pe_var hN hv hd hcd) (pa_cons wx_pe pa_nil hs) (hfew := hpl) (hline := hline) (hs := hs) (hplain := rfl)) hsw) ⟨.ref q, e1, .inl ⟨rfl, _, .inl (.inl ho)⟩, ?_⟩
  exact h I0 H0 σ I H rl W tk (fun I1 H1 g c hc => f σ I1 H1 g.ii (rl.grow g) c hc) _
end
end LR

set_option Elab.async false
set_option linter.all false
set_option maxRecDepth 100000
set_option maxHeartbeats 4000000
/-! The layer LR, part q: sorted(xs, key=f), f a def whose results are whole numbers. -/
namespace LR
open PySem PySem.Spec PyProof.Rows L2

theorem each_vals {xs : List V} {its : List Value} {ds : List PyData} {K : PySem.W.Frag} {I : Hp} (r : Vals xs its) (h : DpAll K I xs ds) : PySem.W.EachIs (fun (v : Value) (p : V × PyData) => RelV p.1 v ∧ Dp K I p.1 p.2) its (xs.zip ds) := by
  induction r generalizing ds with
  | nil => cases h; exact .nil
  | cons a b ih =>
    cases h with
    | cons c d => exact .cons ⟨a, c⟩ (ih d)
theorem zip_snd {xs : List V} : ∀ {ds : List PyData}, xs.length = ds.length → (xs.zip ds).map (·.2) = ds := by
  induction xs with
  | nil => intro ds h; cases ds with
    | nil => rfl
    | cons => cases h
  | cons x r ih => intro ds h; cases ds with
    | nil => cases h
    | cons d s =>
      rw [List.zip_cons_cons, List.map_cons, ih (by simpa using h)]
theorem vals_each {K : PySem.W.Frag} {I : Hp} : ∀ {out : List Value} {zs : List (V × PyData)}, PySem.W.EachIs (fun (v : Value) (p : V × PyData) => RelV p.1 v ∧ Dp K I p.1 p.2) out zs → Vals (zs.map (·.1)) out ∧ DpAll K I (zs.map (·.1)) (zs.map (·.2))
  | _, _, .nil => ⟨.nil, .nil⟩
  | _, _, .cons a b => ⟨.cons a.1 (vals_each b).1, .cons a.2 (vals_each b).2⟩
theorem each_snoc' {α β : Type} {R : α → β → Prop} {a : α} {b : β} (h : R a b) : ∀ {as : List α} {bs : List β}, PySem.W.EachIs R as bs → PySem.W.EachIs R (as ++ [a]) (bs ++ [b])
  | _, _, .nil => .cons h .nil
  | _, _, .cons p q => .cons p (each_snoc' h q)
/-- sorted(xs, key=f) -/
def rSortF (K : PySem.W.Frag) (f : Addr) (R : List PyData → Res → Prop) : List V → List V → Hp → VK → Prop := fun vs zs H Q => ∃ (a : Addr) (xs : List V) (ds : List PyData) (key : PyData → Int) (I : Hp), vs = [V.ref a] ∧ zs = [V.ref f] ∧ SqL K H a xs ∧ Same I H ∧ DpAll K I xs ds ∧ (∀ d ∈ ds, R [d] (.ok (.dat (.int (key d))))) ∧
  ∀ (ys : List V) (I2 H2 : Hp) (p : Addr), Grow I H I2 H2 → DpAll K I2 ys (ds.mergeSort fun a b => decide (key a ≤ key b)) → H p = none → I2 p = none → H2 p = none → Q (.ref p) (upd H2 p (.lst ys))
theorem le_key {α : Type} (k : α → Int) (a b : α) : PySem.W.dataLe false (fun x => PyData.int (k x)) a b = decide (k a ≤ k b) := by
  show (!PyProof.Rows.lexLt PyProof.Rows.itemOrd [Sum.inl (k b)] [Sum.inl (k a)]) = _
  simp [PyProof.Rows.lexLt, PyProof.Rows.itemLt]
  rw [← decide_not]
  exact decide_eq_decide.mpr (by omega)
section
variable {X : Cx} {A : List C} {pos p p2 : Pos} {x : Str}
theorem sorted_loop {pins : List (Addr × Obj)} {σ : L2.St} {k : Nat} {pn : Str} {R : List PyData → Res → Prop} {f : Addr} {fd : FuncData} (F : FnOk X.prog X.w X.K X.mg X.base (L2.CX X.prog X.w) k f fd [pn] (Spec X.K X.mg R)) (hr : Room (k + 2) X.A) (hb : Binds X.K fd [pn] [])
    {s : Shared} {H I : Hp} {a kS : Addr} {its : List Value} {xs : List V} {ds : List PyData} {key : PyData → Int} {e1 : Nat} {Pf : PySem.Fin → Shared → Prop} {E : Value → Shared → Prop}
    (Iv : Inv X pins σ H s) (hih : Same I H) (nk : s.heap.get? kS = some (seqObj "list" #[] 0)) (na : s.heap.get? a = some (seqObj "list" #[] e1)) (hka : kS ≠ a) (Hk : H kS = none) (Ha : H a = none)
    (f1 : ∀ c, (c = kS ∨ c = a) → X.s_0.heap.objs.size ≤ c ∧ c ≠ X.env.locals ∧ (∀ x d, X.env.cells.lookup x = some d → d ≠ c) ∧ (∀ p ∈ X.pn ++ pins, p.1 ≠ c) ∧ c ∉ X.fs)
    (rv : Vals xs its) (hd : DpAll X.K I xs ds) (hR : ∀ d ∈ ds, R [d] (.ok (.dat (.int (key d))))) (hz : its.length ≤ sizeLine)
    (done : ∀ (ys : List V) (I2 H2 : Hp) (s2 : Shared), Grow I H I2 H2 → DpAll X.K I2 ys (ds.mergeSort fun a b => decide (key a ≤ key b)) → Inv X pins σ (upd H2 a (.lst ys)) s2 → I2 a = none → H2 a = none → Pf (.done (.ret .none)) s2) :
    wpAny (model X.prog X.w) X.A.in1.in1 (PyProof.Rows.ksk_rest a (.ref f) false its.toArray e1 (.ref kS)) Pf E s := by
  unfold PyProof.Rows.ksk_rest
  refine wpAny_bind (wpAny_rule ?_)
  first
    | rw [List.forIn_toArray]
    | (rw [← Array.forIn_toList]; simp only [List.toList_toArray])
    | rw [← Array.forIn_toList]
  have hlx : its.length = ds.length := by rw [← rv.length, dpAll_len hd]
  refine wpAny_bind (PyProof.Rows.ksk_fold (fun i s' => ∃ I' H' kA e, Inv X ((kS, seqObj "list" kA e) :: (a, seqObj "list" #[] e1) :: pins) σ H' s' ∧ Grow I H I' H' ∧ I' a = none ∧ PySem.W.EachIs (fun (v : Value) (d : PyData) => ∃ t, v = Value.int (key d) t) kA.toList (ds.take i)) its 0 s
    ⟨I, H, #[], 0, ?start, .refl hih, ?sa, by rw [List.take_zero]; exact PySem.W.EachIs.nil⟩ ?step ?done)
  case sa => exact hih.free Ha
  case start =>
    refine Iv.pins_of fun p hp => ?_
    rcases List.mem_cons.mp hp with rfl | hp
    · exact ⟨nk, Hk, (f1 kS (.inl rfl)).2.1, (f1 kS (.inl rfl)).2.2.2.2, fun v z => by cases z⟩
    · rcases List.mem_cons.mp hp with rfl | hp
      · exact ⟨na, Ha, (f1 a (.inr rfl)).2.1, (f1 a (.inr rfl)).2.2.2.2, fun v z => by cases z⟩
      · exact Iv.pin p (List.mem_append.mpr (.inr hp))
  case step =>
    rintro j x s' hx ⟨I', H', kA, e, J, g, ia, hk⟩
    simp only [Nat.zero_add] at hk ⊢
    have hj : j < its.length := (List.getElem?_eq_some_iff.mp hx).1
    obtain ⟨d, hdj⟩ : ∃ d, ds[j]? = some d := ⟨_, List.getElem?_eq_getElem (by omega)⟩
    obtain ⟨v, hv, hvd⟩ := dpAll_get hd hdj
    obtain ⟨x', hx', rx⟩ := rv.get hv
    have ex : x' = x := Option.some.inj (hx'.symm.trans hx)
    subst ex
    have hszk : kA.size ≤ its.length := by
      have h1 := hk.length
      rw [Array.length_toList, List.length_take] at h1
      omega
    have rm : Room k X.A.in1.in1 := Room.in1 (Room.in1 hr)
    refine wpAny_bind (wpAny_attempt ?_)
    refine wpAny_call (codeAny_mono (F.run X.A.in1.in1 X.stack s' H' ⟨[x'], []⟩ [x'] [v] (fun u H2 => ∃ I2, Grow I' H' I2 H2 ∧ u = .int (key d)) (fun _ _ _ => False) rm J.env0.in1.in1 ?bn (.cons rx .nil) ?sp) fun r s2 hq => ?_)
    case bn =>
      have := hb s' [x'] J.kIn rfl
      simpa using this
    case sp =>
      refine ⟨I', [d], .ok (.dat (.int (key d))), g.ih, .cons (dp_mono g.ii hvd) .nil, hR d (List.mem_of_getElem? hdj), fun u I2 H2 g2 hu => ⟨I2, g2, dp_int hu⟩⟩
    cases r with
    | error e =>
      obtain ⟨_, _, _, _, _, _, _, _, _, _, _, _, z⟩ := hq
      exact z.elim
    | ok fl =>
      cases fl with
      | next => exact False.elim hq
      | brk => exact False.elim hq
      | cont => exact False.elim hq
      | ret u =>
        obtain ⟨v2, H2, os, bare, un, hok, r2, I2, g2, rfl⟩ := hq
        obtain ⟨t2, rfl⟩ : ∃ t, u = Value.int (key d) t := r2
        have J2 : Inv X ((kS, seqObj "list" kA e) :: (a, seqObj "list" #[] e1) :: pins) σ H2 s2 := J.call' (ch := []) os un hok bare (fun _ z => nomatch z)
        have pk := J2.pin (kS, seqObj "list" kA e) (List.mem_append.mpr (.inr List.mem_cons_self))
        have pa := J2.pin (a, seqObj "list" #[] e1) (List.mem_append.mpr (.inr (List.mem_cons_of_mem _ List.mem_cons_self)))
        obtain ⟨c2, hc2⟩ : ∃ c2, (s2.heap.update kS (Obj.mapSeq (·.push (Value.int (key d) t2)))).get? kS = some (seqObj "list" (kA.push (Value.int (key d) t2)) c2) := ⟨_, get?_update_seq pk.1 (·.push (Value.int (key d) t2))⟩
        have s1 := Heap.SameBut.update s2.heap kS (Obj.mapSeq (·.push (Value.int (key d) t2)))
        refine wpAny_bind (listUpdate_at pk.1 rfl ?_ (Nat.le_trans hszk hz) (Nat.le_trans (Nat.le_of_eq (Array.size_push ..)) (Nat.succ_le_succ (Nat.le_trans hszk hz))))
        have ff := f1 kS (.inl rfl)
        have J3 : Inv X ((a, seqObj "list" #[] e1) :: pins) σ H2 s2 := J2.pins_of fun p hp => J2.pin p (List.mem_append.mpr (.inr (List.mem_cons_of_mem _ hp)))
        have J4 : Inv X ((a, seqObj "list" #[] e1) :: pins) σ H2 { s2 with heap := s2.heap.update kS (Obj.mapSeq (·.push (Value.int (key d) t2))), toks := s2.toks } :=
          J3.turned (it := kS) (t' := s2.toks) (fun b o hb e => (s1.2 b hb).trans e) pk.2.1 ff.2.1 (.inr ff.1) ff.2.2.1 fun p hp => by
            rcases List.mem_append.mp hp with z | z
            · exact ff.2.2.2.1 p (List.mem_append.mpr (.inl z))
            · rcases List.mem_cons.mp z with rfl | z
              · exact hka.symm
              · exact ff.2.2.2.1 p (List.mem_append.mpr (.inr z))
        refine wpAny_pure ⟨rfl, I2, H2, kA.push (Value.int (key d) t2), c2, ?_, g.trans g2, ?_, ?_⟩
        · refine J4.pins_of fun p hp => ?_
          rcases List.mem_cons.mp hp with rfl | hp
          · exact ⟨hc2, pk.2.1, ff.2.1, ff.2.2.2.2, fun v z => by cases z⟩
          · exact J4.pin p (List.mem_append.mpr (.inr hp))
        · exact g2.ih.free pa.2.1
        · have e3 : ds.take (j + 1) = ds.take j ++ [d] := by rw [List.take_add_one, hdj]; rfl
          rw [e3, Array.toList_push]
          exact each_snoc' (R := fun (v : Value) (d : PyData) => ∃ t, v = Value.int (key d) t) ⟨t2, rfl⟩ hk
  case done =>
    rintro s' ⟨I', H', kA, e, J, g, ia, hk⟩
    have pk := J.pin (kS, seqObj "list" kA e) (List.mem_append.mpr (.inr List.mem_cons_self))
    have pa := J.pin (a, seqObj "list" #[] e1) (List.mem_append.mpr (.inr (List.mem_cons_of_mem _ List.mem_cons_self)))
    have e3 : ds.take (0 + its.length) = ds := List.take_of_length_le (by omega)
    rw [e3] at hk
    have hszk : kA.size = its.length := by
      have h1 := hk.length
      rw [Array.length_toList] at h1
      omega
    have hkd : PySem.W.EachIs (fun (v : Value) (d : PyData) => ∃ as, Reads s'.heap v d as) kA.toList (ds.map fun d => PyData.int (key d)) := by
      have go : ∀ {ks : List Value} {ds : List PyData}, PySem.W.EachIs (fun (v : Value) (d : PyData) => ∃ t, v = Value.int (key d) t) ks ds → PySem.W.EachIs (fun (v : Value) (d : PyData) => ∃ as, Reads s'.heap v d as) ks (ds.map fun d => PyData.int (key d)) := by
        intro ks ds h
        induction h with
        | nil => exact .nil
        | cons a b ih =>
          obtain ⟨t, rfl⟩ := a
          exact .cons ⟨[], .int _ _⟩ ih
      exact go hk
    obtain ⟨G, g1, g2⟩ := restrict s'.heap fun b => decide (b ≠ kS)
    have gk : ∀ b o, b ≠ kS → s'.heap.get? b = some o → G.get? b = some o := fun b o hb e => by
      rw [g1 b (decide_eq_true hb)]
      exact e
    have gkS : G.get? kS = none := g2 kS (decide_eq_false fun z => z rfl)
    have kp : PySem.W.KeepsBut a G s'.heap := fun b o hb e => by
      by_cases hbk : b = kS
      · subst hbk; rw [gkS] at e; cases e
      · rw [← g1 b (decide_eq_true hbk)]; exact e
    have hal : PySem.W.AllAlike (ds.map fun d => PyData.int (key d)) := fun d hd d' hd' => by
      obtain ⟨_, _, rfl⟩ := List.mem_map.mp hd
      obtain ⟨_, _, rfl⟩ := List.mem_map.mp hd'
      rfl
    have hso : PySem.W.Sortable (ds.map fun d => PyData.int (key d)) := .inr fun d hd => by
      obtain ⟨_, _, rfl⟩ := List.mem_map.mp hd
      exact ⟨(fun z => by cases z), fun _ z => by cases z⟩
    refine wpAny_bind (listItems_at pk.1 rfl ?_)
    refine PySem.W.keyH_end (κ := PySem.W.dataKind s'.heap (ds.map fun d => PyData.int (key d))) (h₁ := G) kp gkS pk.1 pa.1 hka (PySem.W.SortsAt.data hkd hal hso fun d hd => ?room) hszk hz fun h' tk c k3 n3 => ?_
    case room =>
      obtain ⟨_, _, rfl⟩ := List.mem_map.mp hd
      have := hr.un
      show X.A.units + 1 + 1 + PyData.depth (.int _) < _
      rw [PyData.depth]
      omega
    have ko : PySem.W.KeyedOut false (ds.map fun d => PyData.int (key d)) its (PySem.W.sortVals (PySem.W.dataKind s'.heap (ds.map fun d => PyData.int (key d))) false kA.toList its) := ⟨s'.heap, kA.toList, hal, rfl, hkd⟩
    generalize PySem.W.sortVals (PySem.W.dataKind s'.heap (ds.map fun d => PyData.int (key d))) false kA.toList its = out at *
    have ez : (xs.zip ds).map (fun p => PyData.int (key p.2)) = ds.map fun d => PyData.int (key d) := by
      conv => rhs; rw [← zip_snd (xs := xs) (ds := ds) (dpAll_len hd)]
      rw [List.map_map]
      rfl
    rw [← ez] at ko
    have each := PySem.W.keyedOut_each (fun p : V × PyData => PyData.int (key p.2)) ko (each_vals rv (dpAll_mono g.ii hd))
    have em : ((xs.zip ds).mergeSort (PySem.W.dataLe false fun p : V × PyData => PyData.int (key p.2))).map (·.2) = ds.mergeSort fun a b => decide (key a ≤ key b) := by
      rw [List.map_mergeSort (s := fun a b => decide (key a ≤ key b)) (fun a _ b _ => le_key (fun p : V × PyData => key p.2) a b), zip_snd (dpAll_len hd)]
    obtain ⟨w1, w2⟩ := vals_each each
    rw [em] at w2
    have hol : out.length = its.length := ko.length (by rw [List.length_map, List.length_zip, dpAll_len hd, Nat.min_self]; exact hlx.symm)
    generalize ((xs.zip ds).mergeSort (PySem.W.dataLe false fun p : V × PyData => PyData.int (key p.2))).map (·.1) = ys at *
    refine done ys I' H' _ g w2 ?_ ia pa.2.1
    have J0 : Inv X pins σ H' s' := J.pins_of fun p hp => J.pin p (List.mem_append.mpr (.inr (List.mem_cons_of_mem _ (List.mem_cons_of_mem _ hp))))
    have fa := f1 a (.inr rfl)
    have fk := f1 kS (.inl rfl)
    have kept : ∀ b o, b ∉ [a, kS] → s'.heap.get? b = some o → h'.get? b = some o := fun b o hb e => by
      have h1 : b ≠ a := fun z => hb (by simp [z])
      have h2 : b ≠ kS := fun z => hb (by simp [z])
      exact k3 b o h1 (gk b o h2 e)
    have nH : ∀ b u, H' b = some u → b ∉ [a, kS] := fun b u e z => by
      rcases List.mem_cons.mp z with rfl | z
      · rw [pa.2.1] at e; cases e
      · rw [List.mem_singleton.mp z, pk.2.1] at e; cases e
    have ne : ∀ b u, H' b = some u → b ≠ a := fun b u e z => nH b u e (by simp [z])
    refine J0.step (ch := [a, kS]) (g' := s'.gens) (d' := s'.drawn) (fun b hb => ?_) (fun b o _ _ hc e _ => kept b o hc e) (fun b o _ _ hc e _ => ⟨o.slots, kept b o hc e⟩) (fun b o hc e n => ?_) (fun b o hc e => ⟨o, kept b o hc e⟩)
      (fun b zs q => by rw [upd_ne (ne b _ q)]; exact q) (fun b o u q => by rw [upd_ne (ne b _ q)]; exact q) (fun b ps q => ⟨#[], by rw [upd_ne (ne b _ q), q]; simp⟩) (fun m hm => ?_) (fun b u q => ?_) J0.bare
    · rcases List.mem_cons.mp hb with rfl | hb
      · exact ⟨.inr fa.1, fa.2.1, fa.2.2.1, fa.2.2.2.1⟩
      · rw [List.mem_singleton.mp hb]
        exact ⟨.inr fk.1, fk.2.1, fk.2.2.1, fk.2.2.2.1⟩
    · rw [upd_ne (fun z => hc (by simp [z]))]; exact n
    · obtain ⟨o, es, ep, ho, r⟩ := hm
      refine ⟨o, es, ep, kept _ _ (fun z => ?_) ho, r⟩
      rcases List.mem_cons.mp z with z | z
      · exact fa.2.1 z.symm
      · exact fk.2.1 (List.mem_singleton.mp z).symm
    · by_cases hba : b = a
      · subst hba
        rw [upd_same] at q
        cases q
        exact ⟨by rw [w1.length, hol]; exact hz, out, c, w1, n3⟩
      · rw [upd_ne hba] at q
        refine (J0.hok b u q).stay (fun c v hc z => kept c v ?_ z) (fun c z => by rw [upd_ne (ne c _ z)]; exact z) (fun c zs z => by rw [upd_ne (ne c _ z)]; exact z)
        rcases hc with z | z
        · rw [z]; exact nH b u q
        · exact nH c _ z
theorem cr_sortF {k : Nat} {pn : Str} {R : List PyData → Res → Prop} {f : Addr} {fd : FuncData} (F : FnOk X.prog X.w X.K X.mg X.base (L2.CX X.prog X.w) k f fd [pn] (Spec X.K X.mg R)) (hr : Room (k + 2) X.A) (hb : Binds X.K fd [pn] []) :
    CallRK X (.builtin "sorted") [Str.ofString "key"] (rSortF X.K f R) := by
  intro pins s σ H vs zs us ws Q I r rz h
  obtain ⟨l, xs, ds, key, I1, rfl, rfl, hs, hih, hd, hR, q⟩ := h
  obtain rfl := Vals.ref1 r
  obtain ⟨w1, rfl, e1⟩ := vals1 rz
  obtain rfl : w1 = Value.ref f := e1
  obtain ⟨its, rv, hl, hz⟩ := I.list hs
  have hz' : its.length ≤ sizeLine := by rw [← rv.length]; exact hz
  refine PySem.W.sorted_of_sort hl.isList hz' (PyProof.Rows.ksk_s1 _ _) (fun _ => PyProof.Rows.ksk_l1 _ _) fun E' => ?_
  rw [show ([Str.ofString "key"].zip [Value.ref f]) = [(Str.ofString "key", Value.ref f)] from rfl, PyProof.Rows.ksk_t1]
  have ho := PySem.W.copyHeap_at s.heap its
  have sz0 : (PySem.W.copyHeap s.heap its).objs.size = s.heap.objs.size + 2 := by
    unfold PySem.W.copyHeap
    rw [size_push', Heap.size_update, size_push']
  obtain ⟨e1, ho1⟩ : ∃ e1, ((PySem.W.copyHeap s.heap its).update (s.heap.objs.size + 1) (Obj.mapSeq fun _ => (#[] : Array Value))).get? (s.heap.objs.size + 1) = some (seqObj "list" #[] e1) := ⟨_, get?_update_seq ho fun _ => #[]⟩
  have hkS : (((PySem.W.copyHeap s.heap its).update (s.heap.objs.size + 1) (Obj.mapSeq fun _ => (#[] : Array Value))).push (seqObj "tuple" its.toArray 0)).objs.size = s.heap.objs.size + 3 := by rw [size_push', Heap.size_update, sz0]
  unfold PyProof.Rows.ksk_tree
  refine wpAny_bind (listItems_at (s := { s with heap := PySem.W.copyHeap s.heap its }) ho rfl ?_)
  refine wpAny_bind (listUpdate_at (s := { s with heap := PySem.W.copyHeap s.heap its }) ho rfl ?_ (by rw [List.size_toArray]; exact hz') (Nat.zero_le _))
  refine wpAny_bind (seqEpoch_at ho1 rfl ?_)
  refine wpAny_bind (wpAny_newTuple ?_ (by show its.length ≤ _; exact hz'))
  refine wpAny_bind (wpAny_newList ?_ (Nat.zero_le _))
  refine wpAny_holding ?_
  have old : ∀ b o, s.heap.get? b = some o → ((((PySem.W.copyHeap s.heap its).update (s.heap.objs.size + 1) (Obj.mapSeq fun _ => (#[] : Array Value))).push (seqObj "tuple" its.toArray 0)).push (seqObj "list" #[] 0)).get? b = some o := fun b o e => by
    have hlt := Heap.lt_size e
    refine Heap.get?_push_of_some _ (Heap.get?_push_of_some _ ?_)
    rw [Heap.get?_update_ne _ _ _ _ (Nat.ne_of_lt (Nat.lt_succ_of_lt hlt))]
    exact PySem.W.copyHeap_old e
  have I2 : Inv X pins σ H { s with heap := (((PySem.W.copyHeap s.heap its).update (s.heap.objs.size + 1) (Obj.mapSeq fun _ => (#[] : Array Value))).push (seqObj "tuple" its.toArray 0)).push (seqObj "list" #[] 0), toks := s.toks } := I.kept old
  have hlt : ∀ c, s.heap.objs.size ≤ c → X.s_0.heap.objs.size ≤ c ∧ c ≠ X.env.locals ∧ (∀ x d, X.env.cells.lookup x = some d → d ≠ c) ∧ (∀ p ∈ X.pn ++ pins, p.1 ≠ c) ∧ c ∉ X.fs := fun c hc => by
    refine ⟨Nat.le_trans I.sz hc, fun z => ?_, fun x d e z => ?_, fun p hp z => ?_, I.nofs hc⟩
    · exact absurd (Nat.lt_of_le_of_lt (z ▸ hc) I.lt) (Nat.lt_irrefl _)
    · obtain ⟨v, o, ho, _⟩ := I.cell x d e
      exact absurd (Nat.lt_of_lt_of_le (Heap.lt_size ho) (z ▸ hc)) (Nat.lt_irrefl _)
    · exact absurd (Nat.lt_of_lt_of_le (Heap.lt_size (I.pin p hp).1) (z ▸ hc)) (Nat.lt_irrefl _)
  refine sorted_loop (kS := (((PySem.W.copyHeap s.heap its).update (s.heap.objs.size + 1) (Obj.mapSeq fun _ => (#[] : Array Value))).push (seqObj "tuple" its.toArray 0)).objs.size) (key := key) F hr hb I2 hih (Heap.get?_push_size _ rfl) (Heap.get?_push_of_some _ (Heap.get?_push_of_some _ ho1)) (by rw [hkS]; exact Nat.ne_of_gt (Nat.lt_succ_of_lt (Nat.lt_succ_self _)))
    (I.hok.fresh (by rw [hkS]; exact Nat.le_add_right _ _)) (I.hok.fresh (Nat.le_succ _)) (fun c hc => hlt c (by
      rcases hc with z | z
      · rw [z, hkS]; exact Nat.le_add_right _ _
      · rw [z]; exact Nat.le_succ _)) rv hd hR hz' fun ys I3 H3 s3 g w J ia ha => ?_
  exact ⟨rfl, .ref _, _, J, rfl, q ys I3 H3 _ g w (I.hok.fresh (Nat.le_succ _)) ia ha⟩
/-- sorted(e, key=f) -/
theorem ev_sortF {k : Nat} {pn y : Str} {R : List PyData → Res → Prop} {ds : List PyData} {e : Expr} (key : PyData → Int) {np kp : Pos} (G : Fn X.prog X.w X.K X.mg X.base k y [pn] R) (hr : Room (k + 2) X.A) (hg : Gl X "sorted") (hm : X.mg "sorted" = none) (hgy : Gl X y) (h : EvS X A e true ds) (hR : ∀ d ∈ ds, R [d] (.ok (.dat (.int (key d)))))
    (hdb : (y == ("__debug__" : Str)) = false := by decide) (hb : bootBuiltins "sorted" = some (.builtin "sorted") := by decide +kernel) (he : backTo pos (starEach (e :: []) X.env) = (false, eval e X.env) :: backTo pos (starEach [] X.env) := by rfl) (hpl : (backTo pos (starEach (e :: []) X.env)).any (·.1) = false := by rfl)
    (hall : (backToKw pos (keywordEach [⟨some (Str.ofString "key"), .Name y np, kp⟩] X.env)).all (·.1.isSome) = true := by rfl) (hnone : (backToKw pos (keywordEach [⟨some (Str.ofString "key"), .Name y np, kp⟩] X.env)).any (·.1.isNone) = false := by rfl) (hks : (backToKw pos (keywordEach [⟨some (Str.ofString "key"), .Name y np, kp⟩] X.env)).filterMap (·.1) = [Str.ofString "key"] := by rfl) (hs : starEach (e :: []) X.env = (false, eval e X.env) :: starEach [] X.env := by rfl) :
    Ev X A (.Call (.Name "sorted" p) [e] [⟨some (Str.ofString "key"), .Name y np, kp⟩] pos) (.own (.lst (ds.mergeSort fun a b => decide (key a ≤ key b)))) := fun I0 H0 σ I H rl Q q => by
  obtain ⟨f, fd, F, hmy, hk, hbd, _⟩ := G.ex
  exact wx_of (pe_callBK (cr_sortF F hr hbd) hg hm hb (pa_cons wx_pe pa_nil hs) (pk_cons (pe_glob (v := .ref f) hgy hmy rfl hdb) pk_nil) (by decide) (by decide) he hpl hall hnone hks) (h I0 H0 σ I H rl _ fun p vs I1 H1 g hkk ha =>
    ⟨p, vs, ds, key, I1, rfl, rfl, hkk, g.ih, ha, hR, fun ys I2 H2 a g2 w n1 n2 n3 => by
      have g3 := Grow.newH (o := .lst ys) g2.ih n3
      exact q _ _ _ ((g.trans g2).trans g3) ⟨a, _, rfl, g.hh.free n1, n2, upd_same, w⟩⟩)
end
end LR

set_option Elab.async false
set_option linter.all false
set_option maxRecDepth 100000
set_option maxHeartbeats 4000000
/-! The layer LR, part r: t[::-1] of a tuple. -/
namespace LR
open PySem PySem.Spec PyProof.Rows L2 HT RZ

theorem pick_all {α : Type} : ∀ l : List α, (List.range l.length).filterMap (fun k => l[k]?) = l
  | [] => rfl
  | x :: r => by
    rw [List.length_cons, List.range_succ_eq_map, List.filterMap_cons, List.filterMap_map]
    show x :: (List.range r.length).filterMap (fun k => r[k]?) = _
    rw [pick_all r]
theorem fm_congr {α β : Type} {f g : α → Option β} : ∀ {l : List α}, (∀ x ∈ l, f x = g x) → l.filterMap f = l.filterMap g
  | [], _ => rfl
  | x :: r, h => by
    rw [List.filterMap_cons, List.filterMap_cons, h x List.mem_cons_self, fm_congr fun y hy => h y (List.mem_cons_of_mem _ hy)]
theorem rev_pick {α : Type} (xs : List α) : (List.range xs.length).filterMap (fun k : Nat => xs[(((xs.length : Int) - 1) + (k : Int) * (-1)).toNat]?) = xs.reverse := by
  have h := pick_all xs.reverse
  rw [List.length_reverse] at h
  conv => rhs; rw [← h]
  refine fm_congr fun k hk => ?_
  have hk := List.mem_range.mp hk
  rw [List.getElem?_reverse hk]
  congr 1
  omega
section
variable {prog : Program} {w : World} {A : Around} {E : Value → Shared → Prop} {s : Shared}
theorem sliceApplied_rev {sl : Addr} {t : Tok} {n : Nat} {Q : Int × Int × Nat → Shared → Prop} (hs : s.heap.IsSliceOf sl .none .none (.int (-1) t))
    (h : Q ((n : Int) - 1, -1, n) s) : wpAny (model prog w) A (Builtin.Slice.sliceApplied (.ref sl) (pure (n : Int))) Q E s := by
  obtain ⟨os, hos, hcs, hds⟩ := id hs
  unfold Builtin.Slice.sliceApplied Builtin.Slice.sliceFields
  refine wpAny_bind (wpAny_bind (wpAny_field hos hds (x := .none) rfl (wpAny_bind (wpAny_field hos hds (x := .none) rfl (wpAny_bind (wpAny_field hos hds (x := .int (-1) t) rfl (wpAny_pure ?_)))))))
  refine wpAny_bind (slicePart_int ?_)
  show wpAny _ _ (if ((-1 : Int) == 0) = true then _ else _) _ _ s
  rw [if_neg (by decide)]
  refine wpAny_bind (slicePart_none (wpAny_bind (slicePart_none (wpAny_bind (wpAny_pure ?_)))))
  show wpAny _ _ (match Builtin.Slice.sliceAdjust none none (-1) (n : Int) with | (lo, hi) => pure (lo, (-1 : Int), Builtin.Slice.slicePlaces lo hi (-1))) _ _ s
  have e : Builtin.Slice.sliceAdjust none none (-1) (n : Int) = ((n : Int) - 1, -1) := by
    unfold Builtin.Slice.sliceAdjust
    rfl
  rw [e]
  have e2 : Builtin.Slice.slicePlaces ((n : Int) - 1) (-1) (-1) = n := by
    unfold Builtin.Slice.slicePlaces
    simp
    omega
  show wpAny _ _ (pure ((n : Int) - 1, (-1 : Int), Builtin.Slice.slicePlaces ((n : Int) - 1) (-1) (-1))) _ _ s
  rw [e2]
  exact wpAny_pure h
theorem getItem_tuple_rev {t sl : Addr} {its : List Value} {tk : Tok} {Q : Value → Shared → Prop} (ht : IsTup s.heap t its.toArray) (hs : s.heap.IsSliceOf sl .none .none (.int (-1) tk)) (hz : its.length ≤ sizeLine)
    (h : Q (.ref s.heap.objs.size) { s with heap := s.heap.push { cls := .type "tuple", data := .seq its.reverse.toArray } }) : wpAny (model prog w) A (getItem (.ref t) (.ref sl)) Q E s := by
  have htake : sizeOk (.seq its.reverse.toArray) := by
    show its.reverse.toArray.size ≤ sizeLine
    rw [List.size_toArray, List.length_reverse]
    exact hz
  obtain ⟨os, hos, hcs, hds⟩ := id hs
  have hTs : s.TypeIs (.ref sl) "slice" := ⟨os, hos, hcs⟩
  unfold getItem
  try with_reducible refine wpAny_holding ?_
  first | refine wpAny_bind (wpAny_pure ?_) | skip
  refine wpAny_bind (wpAny_sequenceKey ht.typeIs (by decide) ?_)
  refine wpAny_bind (wpAny_callSpecial?_slot (name := Str.ofString "__getitem__") ht.typeIs PyProof.Rows.slot_tuple_getitem
    (wpAny_call_entry PyProof.Rows.slot_tuple_getitem ht.typeIs entry_tuple_getitem ?_ (args_tuple_getitem _ _)))
  show wpAny _ _ (Builtin.Tuple.tupleItemsOf (.ref t) >>= _) _ _ s
  refine wpAny_bind (tupleItemsOf_ ht ?_)
  refine wpAny_bind (wpAny_typeOf hTs ?_)
  rw [if_pos (by decide)]
  refine wpAny_bind (sliceApplied_rev hs ?_)
  have hno : ¬ ((((its.toArray.size : Int) - 1) == 0 && (-1 : Int) == 1 && its.toArray.size == its.toArray.size) = true) := by simp
  show wpAny _ _ (if (((its.toArray.size : Int) - 1) == 0 && (-1 : Int) == 1 && its.toArray.size == its.toArray.size) = true then _ else _) _ _ s
  rw [if_neg hno]
  have e : (List.range its.toArray.size).filterMap (fun (k : Nat) => its.toArray[(((its.toArray.size : Int) - 1) + (k : Int) * (-1)).toNat]?) = its.reverse := by
    rw [List.size_toArray, ← rev_pick its]
    congr 1
    funext k
    simp
  rw [e]
  first
    | exact wpAny_bind (m := Builtin.Tuple.tupleExact _) (wpAny_newObj_type (wpAny_pure ⟨_, rfl, wpAny_pure h⟩) htake)
    | exact wpAny_bind (m := Builtin.Tuple.tupleExact _) (wpAny_newObj_type (wpAny_bind (wpAny_pure (wpAny_pure ⟨_, rfl, wpAny_pure h⟩))) htake)
    | exact wpAny_bind (wpAny_bind (m := Builtin.Tuple.tupleExact _) (wpAny_newObj_type (wpAny_pure (wpAny_pure ⟨_, rfl, wpAny_pure h⟩)) htake))
    | exact wpAny_bind (wpAny_bind (m := Builtin.Tuple.tupleExact _) (wpAny_newObj_type (wpAny_pure ⟨_, rfl, wpAny_pure h⟩) htake))
end
theorem vals_rev : ∀ {vs : List V} {us : List Value}, Vals vs us → Vals vs.reverse us.reverse
  | _, _, .nil => .nil
  | _, _, .cons h t => by
    rw [List.reverse_cons, List.reverse_cons]
    exact (vals_rev t).append (.cons h .nil)
section
variable {X : Cx} {e st : Expr} {te : TE} {A : List C}
def tRevT (K : PySem.W.Frag) (te ts : TE) : TE := fun σ H Q => te σ H fun x H1 => ts σ H1 fun i H2 => i = .int (-1) ∧ ∃ a xs, x = .ref a ∧ SqT K H2 a xs ∧ ∀ p, H2 p = none → Q (.ref p) (upd H2 p (.tup xs.reverse))
theorem pe_revT {ts : TE} {p3 pos : Pos} (he : PE X e te) (hst : PE X st ts) : PE X (.Subscript e (.Slice none none (some st) p3) pos) (tRevT X.K te ts) := by
  refine ⟨fun pins s σ H Q I h => ?_⟩
  refine Subscript_ (thn (he.run pins s σ H _ I h) fun v s1 ⟨x, H1, I1, r1, q1⟩ => ?_)
  refine wpAny_Slice (thn (po_none.run pins s1 σ H1 (fun o H3 => o = none ∧ H3 = H1) I1 ⟨rfl, rfl⟩) fun vl s2 ⟨l, H2, I2, pl, el, e2⟩ => ?_)
  subst el e2
  refine thn (po_none.run pins s2 σ H2 (fun o H3 => o = none ∧ H3 = H2) I2 ⟨rfl, rfl⟩) fun vu s3 ⟨u, H3, I3, pu, eu, e3⟩ => ?_
  subst eu e3
  refine thn (hst.run pins s3 σ H3 _ I3 q1) fun vs s4 ⟨i, H4, I4, ri, ei, a, xs, ex, hx, q⟩ => ?_
  subst ei ex
  cases r1
  obtain ⟨tk, rfl⟩ : ∃ t, vs = Value.int (-1) t := ri
  cases pl
  cases pu
  have I5 : Inv X pins σ H4 { s4 with heap := s4.heap.push { cls := .type "slice", data := .fields #[Value.none, Value.none, Value.int (-1) tk] } } := I4.kept (t' := s4.toks) fun b ob q => Heap.get?_push_of_some _ q
  obtain ⟨its, r, ht, hz⟩ := I5.tuple hx
  have hlen := r.length
  show wpAny (model X.prog X.w) X.A (subscriptTail e (.Slice none none (some st) p3) (.ref a) (.ref s4.heap.objs.size)) (EP X pins σ Q) X.xe { s4 with heap := s4.heap.push { cls := .type "slice", data := .fields #[Value.none, Value.none, Value.int (-1) tk] } }
  refine tail_any (ops := [.ref a, .ref s4.heap.objs.size]) ht.typeIs (PyProof.Rows.slot_tuple_getitem.lookup) ?_ (by with_unfolding_all rfl)
  refine getItem_tuple_rev ht (Heap.IsSliceOf.new _ _ _ _) (by rw [← hlen]; exact hz) ?_
  have hr := vals_rev r
  refine ⟨.ref _, _, I5.laid (t' := s4.toks) (o := .tup xs.reverse) (fun b ob q => Heap.get?_push_of_some _ q) (Nat.le_refl _) ?_, rfl, q _ (I5.hok.fresh (Nat.le_refl _))⟩
  exact ⟨by rw [List.length_reverse]; exact hz, _, hr, IsTup.new _ _⟩
/-- t[::-1] -/
theorem ev_revT {p3 pos : Pos} {α : Type} {enc : α → PyData} {xs : List α} (h : Ev X A e (.dat (.tuple (xs.map enc)))) (hl : Ev X A st (.dat (.int (-1)))) : Ev X A (.Subscript e (.Slice none none (some st) p3) pos) (.dat (.tuple (xs.reverse.map enc))) := fun I0 H0 σ I H rl Q q =>
  wx_of (pe_revT wx_pe wx_pe) (h I0 H0 σ I H rl _ fun v I1 H1 g1 hv => hl I0 H0 σ I1 H1 (rl.grow g1) _ fun i I2 H2 g2 hi => by
    have hv := dp_mono g2.ii (show Dp X.K I1 v (.tuple (xs.map enc)) from hv)
    obtain ⟨a, vs, rfl, hk, ha⟩ := dp_tup hv
    refine ⟨dp_int hi, a, vs, rfl, same_t g2.ih hk, fun r hr => ?_⟩
    have g4 := Grow.new (o := .tup vs.reverse) g2.ih hr
    refine q _ _ _ ((g1.trans g2).trans g4) (.tup upd_same ?_)
    rw [List.map_reverse]
    exact dpAll_reverse (dpAll_mono g4.ii ha))
theorem dpAll_zip {K : PySem.W.Frag} {I : Hp} {i : Nat} {d : PyData} : ∀ {src src2 : List PyData}, ((src.zip src2).map fun p => PyData.tuple [p.1, p.2])[i]? = some d → ∃ d1 d2, src[i]? = some d1 ∧ src2[i]? = some d2 ∧ d = .tuple [d1, d2] := by
  intro src src2 h
  rw [List.getElem?_map, Option.map_eq_some_iff] at h
  obtain ⟨⟨d1, d2⟩, h1, h2⟩ := h
  rw [List.getElem?_zip_eq_some] at h1
  exact ⟨d1, d2, h1.1, h1.2, h2.symm⟩
theorem walks_zipT {K : PySem.W.Frag} {I1 : Hp} {a b : Addr} {xs ys : List V} {src src2 : List PyData} (hs : SqT K I1 a xs) (hs2 : SqT K I1 b ys) (ha : DpAll K I1 xs src) (hb : DpAll K I1 ys src2) :
    Walks K (ItzT K a b) I1 ((src.zip src2).map fun p => PyData.tuple [p.1, p.2]) := by
  refine ⟨fun i d e I2 H2 s1 s2 => ?_, fun I2 H2 s1 s2 => ⟨xs, ys, same_t (s1.trans s2) hs, same_t (s1.trans s2) hs2, ?_⟩⟩
  · obtain ⟨d1, d2, e1, e2, rfl⟩ := dpAll_zip (K := K) (I := I1) e
    obtain ⟨v1, f1, g1⟩ := dpAll_get ha e1
    obtain ⟨v2, f2, g2⟩ := dpAll_get hb e2
    refine ⟨⟨xs, ys, v1, v2, same_t (s1.trans s2) hs, same_t (s1.trans s2) hs2, f1, f2⟩, ?_⟩
    rintro z H3 ⟨T, x, y, rfl, hT, rfl, hx, hy⟩
    have ex : x = v1 := Option.some.inj ((hx _ (same_t (s1.trans s2) hs)).symm.trans f1)
    have ey : y = v2 := Option.some.inj ((hy _ (same_t (s1.trans s2) hs2)).symm.trans f2)
    subst ex ey
    have g := Grow.new (o := .tup [x, y]) s2 hT
    exact ⟨_, g, .tup upd_same (.cons (dp_mono (s1.trans g.ii) g1) (.cons (dp_mono (s1.trans g.ii) g2) .nil))⟩
  · rw [List.length_map, List.length_zip, dpAll_len ha, dpAll_len hb]
    omega
variable {P : Program} {w : World} {K : PySem.W.Frag} {mg : Str → Option Value} {base : Heap} {N : List Str} {sc : Scope} {k : Nat} {pos p : Pos}
theorem zipTF (hX : XF P w K mg base N sc k X) {e e2 : Expr} {tpos : Pos} {elts : List Expr} {kk} {α β : Type} {enc1 : α → PyData} {enc2 : β → PyData} {xs : List α} {ys : List β} (hg : GlS sc "zip") (hm : mg "zip" = none) (h1 : Ev X A e (.dat (.tuple (xs.map enc1)))) (h2 : Ev X A e2 (.dat (.tuple (ys.map enc2))))
    (hs : starEach (e :: [e2]) X.env = (false, eval e X.env) :: starEach [e2] X.env := by rfl) (hs2 : starEach (e2 :: []) X.env = (false, eval e2 X.env) :: starEach [] X.env := by rfl) (hpl : (backTo pos (starEach [e2] X.env)).any (·.1) = false := by rfl) :
    EvI X A (.Tuple elts kk tpos) (.Call (.Name "zip" p) [e, e2] [] pos) ((xs.zip ys).map fun z => .tuple [enc1 z.1, enc2 z.2]) := by
  have es : ((xs.zip ys).map fun z => PyData.tuple [enc1 z.1, enc2 z.2]) = (((xs.map enc1).zip (ys.map enc2)).map fun p => PyData.tuple [p.1, p.2]) := by
    rw [List.zip_map, List.map_map]
    rfl
  rw [es]
  refine ⟨_, pi_zipA (hX.gl hg) (by rw [hX.eM]; exact hm) wa_pa hs hpl, fun I0 H0 σ I H rl R q => (ea_cons h1 (ea_cons h2 ea_nil hs2) hs) I0 H0 σ I H rl _ fun vs I1 H1 g hv => ?_⟩
  cases hv with
  | cons a1 b1 => cases b1 with
    | cons a2 b2 =>
      cases b2
      obtain ⟨a, us, rfl, k1, r1⟩ := dp_tup a1
      obtain ⟨b, ws, rfl, k2, r2⟩ := dp_tup a2
      exact ⟨a, b, us, ws, rfl, .inr ⟨same_t g.ih k1, same_t g.ih k2, q _ I1 H1 g (walks_zipT k1 k2 r1 r2)⟩⟩
/-- sorted(e, key=f) of encoded data -/
theorem sortF (hX : XF P w K mg base N sc k X) {e : Expr} {j : Nat} {pn y : Str} {R : List PyData → Res → Prop} {α : Type} {enc : α → PyData} {xs : List α} (key : α → Int) (dec : PyData → α) {np kp : Pos} (G : Fn P w K mg base j y [pn] R) (hj : j + 2 ≤ k) (hg : GlS sc "sorted") (hm : mg "sorted" = none) (hgy : GlS sc y) (h : EvS X A e true (xs.map enc))
    (hdec : ∀ x, dec (enc x) = x) (hR : ∀ x ∈ xs, R [enc x] (.ok (.dat (.int (key x))))) (hdb : (y == ("__debug__" : Str)) = false) (he : backTo pos (starEach (e :: []) X.env) = (false, eval e X.env) :: backTo pos (starEach [] X.env) := by rfl) (hpl : (backTo pos (starEach (e :: []) X.env)).any (·.1) = false := by rfl)
    (hall : (backToKw pos (keywordEach [⟨some (Str.ofString "key"), .Name y np, kp⟩] X.env)).all (·.1.isSome) = true := by rfl) (hnone : (backToKw pos (keywordEach [⟨some (Str.ofString "key"), .Name y np, kp⟩] X.env)).any (·.1.isNone) = false := by rfl) (hks : (backToKw pos (keywordEach [⟨some (Str.ofString "key"), .Name y np, kp⟩] X.env)).filterMap (·.1) = [Str.ofString "key"] := by rfl) (hs : starEach (e :: []) X.env = (false, eval e X.env) :: starEach [] X.env := by rfl) :
    Ev X A (.Call (.Name "sorted" p) [e] [⟨some (Str.ofString "key"), .Name y np, kp⟩] pos) (.own (.lst ((xs.mergeSort fun a b => decide (key a ≤ key b)).map enc))) := by
  have q := ev_sortF (key := fun d => key (dec d)) (hX.fnX G) (hX.room.mono hj) (hX.gl hg) (by rw [hX.eM]; exact hm) (hX.gl hgy) h (fun d hd => by
    obtain ⟨x, hx, rfl⟩ := List.mem_map.mp hd
    rw [hdec]
    exact hR x hx) hdb (by decide +kernel) he hpl hall hnone hks hs (p := p)
  rw [← List.map_mergeSort (r := fun a b => decide (key a ≤ key b)) (fun a _ b _ => by rw [hdec, hdec])] at q
  exact q
end
end LR

set_option Elab.async false
set_option linter.all false
set_option maxRecDepth 100000
set_option maxHeartbeats 4000000
/-! The layer LR, part s: zip of lists and tuples in any mix; xs[lo::st] with a reckoned step; [..] that is appended to at once. -/
namespace LR
open PySem PySem.Spec PyProof.Rows L2

/-- a list (true), a tuple (false) of the heap and its iterator -/
def SeqIs (k : Bool) (h : Heap) (a : Addr) (its : Array Value) : Prop := if k then h.IsList a its else h.IsTuple a its
def ItAt (k : Bool) (h : Heap) (it a : Addr) (i : Nat) : Prop := if k then h.IsListIter it a i else h.IsTupleIter it a i
def SqB (K : PySem.W.Frag) (k : Bool) (H : Hp) (a : Addr) (xs : List V) : Prop := if k then SqL K H a xs else SqT K H a xs
def itObj (k : Bool) (a : Addr) : Obj := { cls := .type (if k then "list_iterator" else "tuple_iterator"), data := .fields #[.ref a, .int 0 0] }
theorem sqB_same {K : PySem.W.Frag} {k : Bool} {H H' : Hp} {a : Addr} {xs : List V} (e : Same H H') (h : SqB K k H a xs) : SqB K k H' a xs := by
  cases k with
  | true => exact same_l e h
  | false => exact same_t e h
theorem seqB {X : Cx} {pins : List (Addr × Obj)} {σ : L2.St} {H : Hp} {s : Shared} {k : Bool} {a : Addr} {xs : List V} (I : Inv X pins σ H s) (h : SqB X.K k H a xs) : ∃ its : List Value, Vals xs its ∧ SeqIs k s.heap a its.toArray := by
  cases k with
  | true =>
    obtain ⟨its, r, p, _⟩ := I.list h
    exact ⟨its, r, p.isList⟩
  | false =>
    obtain ⟨its, r, p, _⟩ := I.tuple h
    exact ⟨its, r, p⟩
theorem sqB_inj {X : Cx} {pins : List (Addr × Obj)} {σ : L2.St} {H : Hp} {s : Shared} {k : Bool} {a : Addr} {xs ys : List V} (I : Inv X pins σ H s) (h : SqB X.K k H a xs) (h2 : SqB X.K k H a ys) : xs = ys := by
  cases k with
  | true => exact I.list_inj h h2
  | false => exact I.tuple_inj h h2
theorem drawsB {prog : Program} {w : World} {A : Around} (hh : A.handled = none) (k : Bool) (it a : Addr) (hne : a ≠ it) (its : Array Value) : Draws prog w A it [it, a] its.size (fun i v => its[i]? = some v) (fun i h => ItAt k h it a i ∧ SeqIs k h a its) := by
  cases k with
  | true => exact Draws.list hh it a hne its
  | false => exact Draws.tuple hh it a hne its
theorem itAt_at {k : Bool} {h h' : Heap} {it a : Addr} {i : Nat} (x : ItAt k h it a i) (e : ∀ o, h.get? it = some o → h'.get? it = some o) : ItAt k h' it a i := by
  cases k with
  | true => exact Heap.IsListIter.at x e
  | false => exact Heap.IsTupleIter.at x e
theorem itAt_get {k : Bool} {h : Heap} {it a : Addr} {i : Nat} (x : ItAt k h it a i) : ∃ o, h.get? it = some o ∧ ∀ v, o.data ≠ .cell v := by
  cases k with
  | true =>
    obtain ⟨o, e, _, d⟩ := x
    exact ⟨o, e, fun v z => by rw [d] at z; cases z⟩
  | false =>
    obtain ⟨o, e, _, d⟩ := x
    exact ⟨o, e, fun v z => by rw [d] at z; cases z⟩
theorem seqIs_lt {k : Bool} {h : Heap} {a : Addr} {its : Array Value} (x : SeqIs k h a its) : a < h.objs.size := by
  cases k with
  | true => obtain ⟨o, e, _⟩ := x; exact Heap.lt_size e
  | false => obtain ⟨o, e, _⟩ := x; exact Heap.lt_size e
theorem beginsB (k : Bool) (a : Addr) (its : Array Value) : Begins (.ref a) (itObj k a) fun h => SeqIs k h a its := by
  cases k with
  | true => exact begins_list a its
  | false => exact begins_tuple a its
theorem itObj_at {k : Bool} {h : Heap} {it a : Addr} (e : h.get? it = some (itObj k a)) : ItAt k h it a 0 := by
  cases k with
  | true => exact ⟨_, e, rfl, rfl⟩
  | false => exact ⟨_, e, rfl, rfl⟩
/-- zip of two, turn by turn: the items in new pairs -/
def ItzB (K : PySem.W.Frag) (k1 k2 : Bool) (a b : Addr) : It :=
  ⟨fun i H => ∃ (xs ys : List V) (x y : V), SqB K k1 H a xs ∧ SqB K k2 H b ys ∧ xs[i]? = some x ∧ ys[i]? = some y,
    fun i H v H' => ∃ T x y, v = .ref T ∧ H T = none ∧ H' = upd H T (.tup [x, y]) ∧ (∀ xs, SqB K k1 H a xs → xs[i]? = some x) ∧ ∀ ys, SqB K k2 H b ys → ys[i]? = some y,
    fun i H => ∃ xs ys : List V, SqB K k1 H a xs ∧ SqB K k2 H b ys ∧ i ≤ xs.length ∧ i ≤ ys.length ∧ (i = xs.length ∨ i = ys.length)⟩
theorem turn_zipB {P : Program} {w : World} {K : PySem.W.Frag} {elts : List Expr} {kk : Nat} {tpos : Pos} {k1 k2 : Bool} {a b z TI TO i1 i2 : Addr} (D : ZipApart z TI TO i1 i2 a b) :
    Turn P w K (.Tuple elts kk tpos) (ItzB K k1 k2 a b) [z, TI, TO, i1, i2] z (fun i h => IsZip h z TI TO .none ∧ IsTupOf2 h TI (.ref i1) (.ref i2) ∧ (∃ x y, IsTupOf2 h TO x y) ∧ ItAt k1 h i1 a i ∧ ItAt k2 h i2 b i) where
  mem := by simp
  obj := fun i h st c hc => by
    obtain ⟨hz, hTI, ⟨x, y, hTO⟩, h1, h2⟩ := st
    simp only [List.mem_cons, List.not_mem_nil, or_false] at hc
    rcases hc with rfl | rfl | rfl | rfl | rfl
    · exact ⟨_, hz, fun v q => nomatch q⟩
    · exact ⟨_, hTI, fun v q => nomatch q⟩
    · exact ⟨_, hTO, fun v q => nomatch q⟩
    · exact itAt_get h1
    · exact itAt_get h2
  keep := fun i h h' st k => by
    obtain ⟨hz, hTI, ⟨x, y, hTO⟩, h1, h2⟩ := st
    exact ⟨k z (by simp) _ hz, k TI (by simp) _ hTI, ⟨x, y, k TO (by simp) _ hTO⟩, itAt_at h1 fun o q => k i1 (by simp) o q, itAt_at h2 fun o q => k i2 (by simp) o q⟩
  item := by
    intro X hP hw hK hc i pins s σ H E I hf st hg
    subst hP hw hK
    obtain ⟨hz, hTI, ⟨x0, y0, hTO⟩, h1, h2⟩ := st
    obtain ⟨xs, ys, x, y, hqx, hqy, hx, hy⟩ := hg
    obtain ⟨its, rv, p⟩ := seqB I hqx
    obtain ⟨its2, rv2, p2⟩ := seqB I hqy
    obtain ⟨u, hu, ru⟩ := rv.get hx
    obtain ⟨u2, hu2, ru2⟩ := rv2.get hy
    have hzl : z < s.heap.objs.size := Heap.lt_size hz
    have S : ZipSep2 z TI TO i1 i2 [i1, a] [i2, b] := ⟨D.TIz, D.TOz, D.TITO, D.TIi1, by simp, by simp [D.i1z.symm, D.l1z.symm], by simp [D.TOi1, D.l1TO.symm], D.TIi2, by simp, by simp [D.i2z.symm, D.l2z.symm], by simp [D.TOi2, D.l2TO.symm], by simp [D.i12, D.l2i1.symm], by simp [D.i12.symm, D.l1i2.symm]⟩
    have hh : X.A.in1.handled = none := I.ok.hd hc
    have D1 := drawsB (prog := X.prog) (w := X.w) hh k1 i1 a D.l1i1 its.toArray
    have D2 := drawsB (prog := X.prog) (w := X.w) hh k2 i2 b D.l2i2 its2.toArray
    refine wpAny_pyNext_zipD2_item S D1 D2 hz hTI hTO ⟨h1, p⟩ ⟨h2, p2⟩ (by
      have := (List.getElem?_eq_some_iff.mp hu).1
      simpa using this) (by
      have := (List.getElem?_eq_some_iff.mp hu2).1
      simpa using this) fun x1 x2 h' tk e1 e2 z' TO' s1 s2 hT hsz hk => ?_
    have e1 : x1 = u := by
      have e1 : its[i]? = some x1 := by simpa using e1
      exact Option.some.inj (e1.symm.trans hu)
    have e2 : x2 = u2 := by
      have e2 : its2[i]? = some x2 := by simpa using e2
      exact Option.some.inj (e2.symm.trans hu2)
    subst e1 e2
    refine ⟨_, rfl, wpAny_letOwnedTupleGo_zip (s := { s with heap := h', toks := tk }) z' fun h'' z'' sb => ?_⟩
    have hT2 : h''.get? s.heap.objs.size = some { cls := .type "tuple", data := .seq #[x1, x2] } := (sb.2 _ (Nat.ne_of_gt hzl)).trans hT
    have new : ObjOk X.prog X.w (upd H s.heap.objs.size (.tup [x, y])) h'' s.heap.objs.size (.tup [x, y]) :=
      ⟨by show 2 ≤ sizeLine; decide, [x1, x2], .cons ru (.cons ru2 .nil), ⟨_, hT2, rfl, _, rfl⟩⟩
    have I1 : Inv X pins σ (upd H s.heap.objs.size (.tup [x, y])) { s with heap := h'', toks := tk } :=
      I.turnedNew (t' := tk) (ch := [z, TI, TO, i1, i2]) (fun c o hb q => (sb.2 c (fun q' => hb (by simp [q']))).trans (hk c o (fun q' => hb (by simp [q'])) (fun q' => hb (by simp [q'])) (fun q' => hb (by simp [q'])) (fun q' => hb (by simp [q'])) q)) hf (Nat.le_refl _) new
    refine ⟨.ref s.heap.objs.size, _, I1, rfl, ⟨_, x, y, rfl, I.hok.fresh (Nat.le_refl _), rfl, fun l hl => by rw [sqB_inj I hl hqx]; exact hx, fun l hl => by rw [sqB_inj I hl hqy]; exact hy⟩, ⟨z'', ?_, ⟨x1, x2, ?_⟩, ?_, ?_⟩, fun c hcm => ?_⟩
    · exact (sb.2 _ D.TIz).trans (hk _ _ D.TIz D.TITO D.TIi1 D.TIi2 hTI)
    · exact (sb.2 _ D.TOz).trans TO'
    · exact itAt_at s1.1 fun o q => (sb.2 _ D.i1z).trans q
    · exact itAt_at s2.1 fun o q => (sb.2 _ D.i2z).trans q
    · have hlt : c < s.heap.objs.size := by
        have hcm' := hcm
        simp only [List.mem_cons, List.not_mem_nil, or_false] at hcm'
        rcases hcm' with rfl | rfl | rfl | rfl | rfl
        · exact hzl
        · exact Heap.lt_size hTI
        · exact Heap.lt_size hTO
        · obtain ⟨_, e, _⟩ := itAt_get h1; exact Heap.lt_size e
        · obtain ⟨_, e, _⟩ := itAt_get h2; exact Heap.lt_size e
      rw [upd_ne (Nat.ne_of_lt hlt)]
      exact (hf c hcm).1
  done := by
    intro X hP hw hK hc i pins s σ H E I hf st hg
    subst hP hw hK
    obtain ⟨hz, hTI, ⟨x0, y0, hTO⟩, h1, h2⟩ := st
    obtain ⟨xs, ys, hqx, hqy, l1, l2, l3⟩ := hg
    obtain ⟨its, rv, p⟩ := seqB I hqx
    obtain ⟨its2, rv2, p2⟩ := seqB I hqy
    have e1 := rv.length
    have e2 := rv2.length
    have S : ZipSep2 z TI TO i1 i2 [i1, a] [i2, b] := ⟨D.TIz, D.TOz, D.TITO, D.TIi1, by simp, by simp [D.i1z.symm, D.l1z.symm], by simp [D.TOi1, D.l1TO.symm], D.TIi2, by simp, by simp [D.i2z.symm, D.l2z.symm], by simp [D.TOi2, D.l2TO.symm], by simp [D.i12, D.l2i1.symm], by simp [D.i12.symm, D.l1i2.symm]⟩
    have hh : X.A.in1.handled = none := I.ok.hd hc
    have D1 := drawsB (prog := X.prog) (w := X.w) hh k1 i1 a D.l1i1 its.toArray
    have D2 := drawsB (prog := X.prog) (w := X.w) hh k2 i2 b D.l2i2 its2.toArray
    exact wpAny_pyNext_zipD2_end S D1 D2 hz hTI hTO ⟨h1, p⟩ ⟨h2, p2⟩ (by simp; omega) (by simp; omega) (by simp; omega) fun h' tk hk =>
      ⟨rfl, I.turnedL (t' := tk) (ch := [z, TI, TO, i1, i2]) (fun c o hb q => hk c o (fun q' => hb (by simp [q'])) (fun q' => hb (by simp [q'])) (fun q' => hb (by simp [q'])) (fun q' => hb (by simp [q'])) q) hf⟩
  self := fun A i s Q E st h => wpAny_pyIter_zip st.1 h
def iZipB (K : PySem.W.Frag) (k1 k2 : Bool) (ta : TA) : TI := fun σ H R => ta σ H fun vs H1 => ∃ a b xs ys, vs = [.ref a, .ref b] ∧ SqB K k1 H1 a xs ∧ SqB K k2 H1 b ys ∧ R (ItzB K k1 k2 a b) H1
theorem pi_zipB {X : Cx} {e e2 : Expr} {ta : TA} {p pos tpos : Pos} {elts : List Expr} {kk : Nat} {k1 k2 : Bool} (hg : Gl X "zip") (hm : X.mg "zip" = none) (ha : PA X [e, e2] ta)
    (hs : starEach [e, e2] X.env = (false, eval e X.env) :: starEach [e2] X.env := by rfl) (hpl : (backTo pos (starEach [e2] X.env)).any (·.1) = false := by rfl) :
    PI X (.Tuple elts kk tpos) (.Call (.Name "zip" p) [e, e2] [] pos) (iZipB X.K k1 k2 ta) := by
  refine ⟨fun pins s σ H R I h => ?_⟩
  refine Call_ (ld_blt I hg hm PyProof.Rows.boot_zip (PyProof.Rows.callWith_type1 (thn (ha.run pos pins s σ H _ I h) fun us s1 ⟨vs, H1, I1, r1, q1⟩ => ?_) hs hpl))
  obtain ⟨a, b, xs, ys, rfl, hqx, hqy, q⟩ := q1
  cases r1 with
  | cons r rr =>
    cases rr with
    | cons r' rr =>
      cases rr
      cases r
      cases r'
      obtain ⟨its, rv, p1⟩ := seqB I1 hqx
      obtain ⟨its2, rv2, p2⟩ := seqB I1 hqy
      refine zip_begins2 (beginsB k1 a its.toArray) (beginsB k2 b its2.toArray) p1 p2 fun h' hz hTI hTO g1 g2 hsz hk => wpAny_pyIter_zip hz ?_
      have I2 : Inv X pins σ H1 { s1 with heap := h' } := I1.kept (t' := s1.toks) hk
      refine ⟨s1.heap.objs.size + 4, [s1.heap.objs.size + 4, s1.heap.objs.size + 2, s1.heap.objs.size + 3, s1.heap.objs.size, s1.heap.objs.size + 1], _, _, H1, rfl, I2, turn_zipB (k1 := k1) (k2 := k2) (PySem.W.ktu_apart s1.heap.objs.size a b (seqIs_lt p1) (seqIs_lt p2)), ⟨hz, hTI, ⟨_, _, hTO⟩, itObj_at g1, itObj_at g2⟩, fun c hcm => ?_, q⟩
      have hle : s1.heap.objs.size ≤ c := by
        simp only [List.mem_cons, List.not_mem_nil, or_false] at hcm
        rcases hcm with z | z | z | z | z
        · rw [z]; exact Nat.le_add_right _ _
        · rw [z]; exact Nat.le_add_right _ _
        · rw [z]; exact Nat.le_add_right _ _
        · rw [z]; exact Nat.le_refl _
        · rw [z]; exact Nat.le_add_right _ _
      exact I1.fpOk hle (I1.hok.fresh hle)
theorem walks_zipB {K : PySem.W.Frag} {I1 : Hp} {k1 k2 : Bool} {a b : Addr} {xs ys : List V} {src src2 : List PyData} (hs : SqB K k1 I1 a xs) (hs2 : SqB K k2 I1 b ys) (ha : DpAll K I1 xs src) (hb : DpAll K I1 ys src2) :
    Walks K (ItzB K k1 k2 a b) I1 ((src.zip src2).map fun p => PyData.tuple [p.1, p.2]) := by
  have l1 := dpAll_len ha
  have l2 := dpAll_len hb
  refine ⟨fun i d e I2 H2 s1 s2 => ?_, fun I2 H2 s1 s2 => ⟨xs, ys, sqB_same (s1.trans s2) hs, sqB_same (s1.trans s2) hs2, ?_⟩⟩
  · obtain ⟨d1, d2, e1, e2, rfl⟩ := dpAll_zip (K := K) (I := I1) e
    obtain ⟨v1, f1, g1⟩ := dpAll_get ha e1
    obtain ⟨v2, f2, g2⟩ := dpAll_get hb e2
    refine ⟨⟨xs, ys, v1, v2, sqB_same (s1.trans s2) hs, sqB_same (s1.trans s2) hs2, f1, f2⟩, ?_⟩
    rintro z H3 ⟨T, x, y, rfl, hT, rfl, hx, hy⟩
    have ex : x = v1 := Option.some.inj ((hx _ (sqB_same (s1.trans s2) hs)).symm.trans f1)
    have ey : y = v2 := Option.some.inj ((hy _ (sqB_same (s1.trans s2) hs2)).symm.trans f2)
    subst ex ey
    have g := Grow.new (o := .tup [x, y]) s2 hT
    exact ⟨_, g, .tup upd_same (.cons (dp_mono (s1.trans g.ii) g1) (.cons (dp_mono (s1.trans g.ii) g2) .nil))⟩
  · rw [List.length_map, List.length_zip, ← l1, ← l2]
    omega
section
variable {X : Cx} {A : List C} {P : Program} {w : World} {K : PySem.W.Frag} {mg : Str → Option Value} {base : Heap} {N : List Str} {sc : Scope} {k : Nat} {pos p : Pos}
/-- zip(e, e2): data, the kinds told -/
theorem zipBF (hX : XF P w K mg base N sc k X) {e e2 : Expr} {tpos : Pos} {elts : List Expr} {kk} (k1 k2 : Bool) {α β : Type} {enc1 : α → PyData} {enc2 : β → PyData} {xs : List α} {ys : List β} (hg : GlS sc "zip") (hm : mg "zip" = none) (h1 : Ev X A e (.dat (if k1 then .list (xs.map enc1) else .tuple (xs.map enc1)))) (h2 : Ev X A e2 (.dat (if k2 then .list (ys.map enc2) else .tuple (ys.map enc2))))
    (hs : starEach (e :: [e2]) X.env = (false, eval e X.env) :: starEach [e2] X.env := by rfl) (hs2 : starEach (e2 :: []) X.env = (false, eval e2 X.env) :: starEach [] X.env := by rfl) (hpl : (backTo pos (starEach [e2] X.env)).any (·.1) = false := by rfl) :
    EvI X A (.Tuple elts kk tpos) (.Call (.Name "zip" p) [e, e2] [] pos) ((xs.zip ys).map fun z => .tuple [enc1 z.1, enc2 z.2]) := by
  have es : ((xs.zip ys).map fun z => PyData.tuple [enc1 z.1, enc2 z.2]) = (((xs.map enc1).zip (ys.map enc2)).map fun p => PyData.tuple [p.1, p.2]) := by
    rw [List.zip_map, List.map_map]
    rfl
  rw [es]
  refine ⟨_, pi_zipB (k1 := k1) (k2 := k2) (hX.gl hg) (by rw [hX.eM]; exact hm) wa_pa hs hpl, fun I0 H0 σ I H rl R q => (ea_cons h1 (ea_cons h2 ea_nil hs2) hs) I0 H0 σ I H rl _ fun vs I1 H1 g hv => ?_⟩
  have both : ∀ {k : Bool} {v : V} {ds : List PyData}, Dp X.K I1 v (if k then .list ds else .tuple ds) → ∃ a xs, v = .ref a ∧ SqB X.K k I1 a xs ∧ DpAll X.K I1 xs ds := by
    intro k v ds h
    cases k with
    | true => exact dp_lst h
    | false => exact dp_tup h
  cases hv with
  | cons a1 b1 => cases b1 with
    | cons a2 b2 =>
      cases b2
      obtain ⟨a, us, rfl, k1', r1⟩ := both a1
      obtain ⟨b, ws, rfl, k2', r2⟩ := both a2
      exact ⟨a, b, us, ws, rfl, sqB_same g.ih k1', sqB_same g.ih k2', q _ I1 H1 g (walks_zipB k1' k2' r1 r2)⟩
/-- for x, y in ..: the state ahead of turn i is inv i -/
theorem forZ (hX : XF P w K mg base N sc k X) {α : Type} {body : List Stmt} {e : Expr} {x y : Str} {px py tpos : Pos} {kk} {src : List PyData} (i j : Nat) (xs : List α) (enc1 enc2 : α → PyData) (inv : Nat → List C) (hi : EvI X A (.Tuple [.Name x px, .Name y py] kk tpos) e src) (hsrc : src = xs.map fun z => .tuple [enc1 z, enc2 z])
    (g1 : PG X (.Name x px) (gName i)) (g2 : PG X (.Name y py) (gName j)) (h0 : LeA A (inv 0)) (hi2 : ∀ n, (inv n)[i]?.isSome = true) (hj2 : ∀ n, (inv n)[j]?.isSome = true)
    (hb : ∀ (n : Nat) (hn : n < xs.length), Sm X (((inv n).set i (.dat (enc1 xs[n]))).set j (.dat (enc2 xs[n]))) body (.nx (inv (n + 1)))) (hs : ∀ x, foldedSetIterable e X.env x = pure x := by intro _; rfl) : S1 X A (.For (.Tuple [.Name x px, .Name y py] kk tpos) e body [] pos) (.nx (inv xs.length)) := by
  subst hsrc
  refine s1_for (g := gTup X.K [i, j].length (gNames [i, j])) (U := uTup [i, j]) hX.pass hX.calm hi (pg_tup (es := [.Name x px, .Name y py]) hX.calm (pgs_cons (e := .Name x px) (es := [.Name y py]) g1 (pgs_cons (e := .Name y py) (es := []) g2 pgs_nil))) tg_tup inv xs.length (by simp) h0 (fun n d hn hd => ?_) (.inl ⟨by simp, rfl⟩) hs
  rw [List.getElem?_map, List.getElem?_eq_getElem hn] at hd
  cases hd
  refine ⟨_, ⟨_, rfl, _, _, rfl, hi2 n, _, _, rfl, ?_, rfl, rfl⟩, hb n hn⟩
  have := hj2 n
  by_cases hij : i = j
  · subst hij
    rw [List.getElem?_set_self (lt_of_some this)]; rfl
  · rw [List.getElem?_set_ne hij]; exact this
/-! xs[lo::st], the step reckoned -/
def tStV (K : PySem.W.Frag) (te tl ts : TE) (c : Int) : TE := fun σ H Q => te σ H fun x H1 => tPart tl σ H1 fun o H2 => tPart ts σ H2 fun o2 H3 => o2 = some c ∧ ∃ a xs, x = .ref a ∧ SqL K H3 a xs ∧ ∀ p, H3 p = none → Q (.ref p) (upd H3 p (.lst (cutS xs o none (some c))))
theorem pe_stepV {e lo st : Expr} {te tl ts : TE} {c : Int} {p3 : Pos} (h0 : c ≠ 0) (he : PE X e te) (hl : PE X lo tl) (hst : PE X st ts) : PE X (.Subscript e (.Slice (some lo) none (some st) p3) pos) (tStV X.K te tl ts c) := by
  refine ⟨fun pins s σ H Q I h => ?_⟩
  refine Subscript_ (thn (he.run pins s σ H _ I h) fun v s1 ⟨x, H1, I1, r1, q1⟩ => ?_)
  refine wpAny_Slice (thn ((po_some hl).run pins s1 σ H1 _ I1 q1) fun vl s2 ⟨l, H2, I2, pl, q2⟩ => ?_)
  refine thn (po_none.run pins s2 σ H2 (fun o H3 => o = none ∧ H3 = H2) I2 ⟨rfl, rfl⟩) fun vu s3 ⟨u, H3, I3, pu, eu, e3⟩ => ?_
  subst eu e3
  refine thn ((po_some hst).run pins s3 σ H3 _ I3 q2) fun vs s4 ⟨o, H4, I4, ps, eo, a, xs, ex, hx, q⟩ => ?_
  subst eo ex
  cases r1
  have I5 : Inv X pins σ H4 { s4 with heap := s4.heap.push { cls := .type "slice", data := .fields #[vl, vu, vs] } } := I4.kept (t' := s4.toks) fun b ob q => Heap.get?_push_of_some _ q
  obtain ⟨its, r, ht, hz⟩ := I5.list hx
  have hlen := r.length
  show wpAny (model X.prog X.w) X.A (subscriptTail e (.Slice (some lo) none (some st) p3) (.ref a) (.ref s4.heap.objs.size)) (EP X pins σ Q) X.xe { s4 with heap := s4.heap.push { cls := .type "slice", data := .fields #[vl, vu, vs] } }
  refine tail_any (ops := [.ref a, .ref s4.heap.objs.size]) ht.isList.typeIs (PySem.slot_list_getitem.lookup) ?_ (by with_unfolding_all rfl)
  refine wpAny_getItem_list_slice ht.isList (Heap.IsSliceOf.new _ vl vu vs) pl pu ps (fun z => h0 (by cases z; rfl)) ?_ (by rw [List.size_toArray]; omega)
  have hsz := slicePick_size_le its.toArray l none (some c)
  rw [cutS_pick] at hsz ⊢
  rw [List.size_toArray, List.size_toArray] at hsz
  have hr : Vals (cutS xs l none (some c)) (cutS its l none (some c)) := by
    unfold cutS
    rw [hlen]
    exact pick_rel r _
  refine ⟨.ref _, _, I5.laid (t' := s4.toks) (o := .lst (cutS xs l none (some c))) (fun b ob q => Heap.get?_push_of_some _ q) (Nat.le_refl _) ?_, rfl, q _ (I5.hok.fresh (Nat.le_refl _))⟩
  exact ⟨by rw [hr.length]; omega, _, 0, hr, Heap.get?_push_size _ rfl⟩
theorem ev_stepV {e lo st : Expr} {l c : Int} {p3 : Pos} {ds : List PyData} (h : EvS X A e true ds) (hl : Ev X A lo (.dat (.int l))) (hc : Ev X A st (.dat (.int c))) (h0 : c ≠ 0) : Ev X A (.Subscript e (.Slice (some lo) none (some st) p3) pos) (.own (.lst (cutS ds (some l) none (some c)))) := fun I0 H0 σ I H rl Q q =>
  wx_of (pe_stepV h0 wx_pe wx_pe wx_pe) (h I0 H0 σ I H rl _ fun p vs I1 H1 g1 hk ha => hl I0 H0 σ I1 H1 (rl.grow g1) _ fun i I2 H2 g2 hi =>
    ⟨l, dp_int hi, hc I0 H0 σ I2 H2 ((rl.grow g1).grow g2) _ fun i2 I3 H3 g3 hi2 => ⟨c, dp_int hi2, rfl, p, vs, rfl, same_l (g2.trans g3).hh hk, fun r hr => by
      have g := (g1.trans g2).trans g3
      have g4 := Grow.newH (o := .lst (cutS vs (some l) none (some c))) g3.ih hr
      refine q _ _ _ (g.trans g4) ⟨r, _, rfl, g.hh.free hr, g3.ih.free hr, upd_same, ?_⟩
      have hd := dpAll_mono (g2.trans g3).ii ha
      show DpAll X.K I3 (cutS vs _ _ _) (cutS ds _ _ _)
      unfold cutS
      rw [dpAll_len hd]
      exact pick_dp hd _⟩⟩)
/-- e.count(k) -/
theorem ev_count {e e2 : Expr} {ns : List Int} {c : Int} {p2 p3 : Pos} (h1 : EvS X A e true (ns.map .int)) (h2 : Ev X A e2 (.dat (.int c))) (hbase : attributeBase e "count" X.env (eval e X.env) = eval e X.env := by rfl) (hs : starEach (e2 :: []) X.env = (false, eval e2 X.env) :: starEach [] X.env := by rfl)
    (hpl : ((backTo p3 (starEach (e2 :: []) X.env)).all (fun x => !x.1) && (backToKw p3 (keywordEach [] X.env)).all (fun x => x.1.isSome) && decide (([e2] : List Expr).length + ([] : List Keyword).length + (if ([] : List Keyword).isEmpty then 0 else 1) < 30)) = true := by rfl) (hline : (p2.endLine == p3.line) = true := by rfl) :
    Ev X A (.Call (.Attribute e "count" p2) [e2] [] p3) (.dat (.int (ns.count c : Nat))) := fun I0 H0 σ I H rl Q q =>
  wx_of (pe_bm PySem.F.plainAttrs_list PySem.F.slot_list_count PySem.F.type_list_count mt_lcount wx_pe (pa_cons wx_pe pa_nil hs) (hbase := hbase) (hfew := hpl) (hline := hline) (hs := hs) (hplain := rfl)) (h1 I0 H0 σ I H rl _ fun a vs I1 H1 g1 hk ha => ⟨.inl ⟨rfl, _, hk⟩, h2 I0 H0 σ I1 H1 (rl.grow g1) _ fun v I2 H2 g2 hv => by
    have hv := dp_int hv
    subst hv
    refine ⟨a, ns, c, rfl, rfl, ?_, q _ I2 H2 (g1.trans g2) (.int _)⟩
    have := ints_of ha
    subst this
    exact same_l g2.hh hk⟩)
/-- e.append(d), e a list of its own -/
theorem s1_appE {e e2 : Expr} {ds : List PyData} {d : PyData} {p2 p3 p4 : Pos} (h1 : Ev X A e (.own (.lst ds))) (h2 : Ev X A e2 (.dat d)) (hz : ds.length < sizeLine) (hbase : attributeBase e "append" X.env (eval e X.env) = eval e X.env := by rfl) (hs : starEach (e2 :: []) X.env = (false, eval e2 X.env) :: starEach [] X.env := by rfl)
    (hpl : ((backTo p3 (starEach (e2 :: []) X.env)).all (fun x => !x.1) && (backToKw p3 (keywordEach [] X.env)).all (fun x => x.1.isSome) && decide (([e2] : List Expr).length + ([] : List Keyword).length + (if ([] : List Keyword).isEmpty then 0 else 1) < 30)) = true := by rfl) (hline : (p2.endLine == p3.line) = true := by rfl)
    (hsw : swapsWith (.Call (.Attribute e "append" p2) [e2] [] p3) none p4.line X.env = pure false := by rfl) : S1 X A (.Expr (.Call (.Attribute e "append" p2) [e2] [] p3) p4) (.nx A) := fun I0 H0 σ I H rl D f =>
  ws_of (ps_expr (pe_bm PySem.F.plainAttrs_list PySem.F.slot_list_append PySem.F.type_list_append mt_append wx_pe (pa_cons wx_pe pa_nil hs) (hbase := hbase) (hfew := hpl) (hline := hline) (hs := hs) (hplain := rfl)) hsw) (h1 I0 H0 σ I H rl _ fun v I1 H1 g1 hv => by
    obtain ⟨a, o, rfl, n0, n1, ho, hb⟩ := hv
    obtain ⟨vs, rfl, ha⟩ := obAt_lst hb
    refine ⟨.inl ⟨rfl, _, .inl (.inl ho)⟩, h2 I0 H0 σ I1 H1 (rl.grow g1) _ fun u I2 H2 g2 hu => ⟨a, vs, u, rfl, rfl, g2.hh _ _ ho, by rw [dpAll_len ha]; exact hz, ?_⟩⟩
    have g := (g1.trans g2).mut (o := .lst (vs ++ [u])) n0 (g2.nw a _ ho n1)
    exact f σ I2 _ g.ii (rl.grow g))
/-- name = [.. for x, y in ..] -/
theorem setLcZ (hX : XF P w K mg base N sc k X) {α : Type} {elt iter : Expr} {scope : Scope} {src : List PyData} {x y z : Str} {px p3 p4 pz spos : Pos} {kk} (l i j : Nat) (xs : List α) (enc1 enc2 : α → PyData) (f : α → PyData) (hi : EvI X A (.Tuple [.Name x px, .Name y p3] kk p4) iter src) (hsrc : src = xs.map fun z => .tuple [enc1 z, enc2 z]) (ok : blkC N sc scope [(x, i), (y, j)] = true)
    (hNi : N[i]? = some x) (hNj : N[j]? = some y) (hx : (relS scope sc).names.lookup x = some .local) (hy : (relS scope sc).names.lookup y = some .local) (hij : i ≠ j) (hz : xs.length < sizeLine) (hi' : A[i]?.isSome = true) (hj : A[j]?.isSome = true)
    (hb : ∀ Y, XF P w K mg base N (relS scope sc) k Y → ∀ z ∈ xs, Ev Y ((((A.set j .un).set i .un).set i (.dat (enc1 z))).set j (.dat (enc2 z))) elt (.dat (f z)))
    (hzN : N[l]? = some z) (hzl : sc.names.lookup z = some .local) (hzj : A[l]?.isSome = true) (hk : sc.kind = .function) (hl : (pz.line == pos.line) = true) (ha : (scope.names.any fun (n, k) => n == z && (k == .local || k == .cell)) = false)
    (hs : ∀ x, foldedSetIterable iter X.env x = pure x := by intro _; rfl) : S1 X A (.Assign [.Name z pz] (.ListComp elt [⟨.Tuple [.Name x px, .Name y p3] kk p4, iter, [], 0⟩] scope pos) spos) (.nx (A.set l (.own (.lst (xs.map f))))) := by
  have l1 := lt_of_some hi'
  have l2 := lt_of_some hj
  have q := s1_setLc (own := [(x, i), (y, j)]) (g := gTup X.K [i, j].length (gNames [i, j])) (U := uTup [i, j]) (A := A) (elt := elt) (ifs := []) (pos := pos) (spos := spos) (py := pz) xs (fun z => .tuple [enc1 z, enc2 z]) (fun _ => true) f hX.calm hX.ndX hi hsrc (by rw [hX.eN, hX.eS]; exact blkOk_by ok)
    (fun s H C cl fp => pg_tup (es := [.Name x px, .Name y p3]) hX.calm (pgs_cons (e := .Name x px) (es := [.Name y p3]) (tgB hX.blk i hNi hx) (pgs_cons (e := .Name y p3) (es := []) (tgB hX.blk j hNj hy) pgs_nil))) tg_tup (tgw_two hij) (Nat.zero_le _) hz
    (fun z hz => ⟨_, ⟨_, rfl, _, _, rfl, by
      show ((((A.set j .un).set i .un))[i]?).isSome = true
      rw [List.getElem?_set_self (by simpa using l1)]; rfl, _, _, rfl, by
      show (((((A.set j .un).set i .un)).set i _)[j]?).isSome = true
      rw [List.getElem?_set_ne hij, List.getElem?_set_ne hij, List.getElem?_set_self l2]; rfl, rfl, rfl⟩, rfl, fun h s H C cl fp => hb _ hX.blk z hz⟩) hs (i := l) (y := z) (by rw [hX.eN]; exact hzN) (by rw [hX.eS]; exact hzl) (sw_true (by rw [hX.eS]; exact hk) (by rw [hX.eS]; exact hzl) hl ha) hzj
  rw [List.filter_eq_self.mpr fun _ _ => rfl] at q
  exact q
/-! xs[::-1] of a list -/
theorem cutS_rev {α : Type} (xs : List α) : cutS xs none none (some (-1)) = xs.reverse := by
  have eb : sliceBounds none none (some (-1)) xs.length = ((xs.length : Int) - 1, -1, -1) := rfl
  unfold cutS
  rw [eb]
  have er : sliceRange ((xs.length : Int) - 1) (-1) (-1) = (List.range xs.length).map fun k : Nat => (((xs.length : Int) - 1) + (-1) * (k : Int)).toNat := by
    unfold sliceRange
    have ec : (if (-1 : Int) > 0 then (if (xs.length : Int) - 1 < -1 then (-1 - ((xs.length : Int) - 1) + (-1) - 1) / (-1) else 0) else (if (xs.length : Int) - 1 > -1 then ((xs.length : Int) - 1 - (-1) - (-1) - 1) / (-(-1)) else 0)).toNat = xs.length := by
      rw [if_neg (by omega)]
      split
      · simp
      · omega
    simp only [ec]
  show ((sliceRange ((xs.length : Int) - 1) (-1) (-1)).filterMap (xs[·]?)) = _
  rw [er, List.filterMap_map, ← rev_pick xs]
  refine fm_congr fun k _ => ?_
  show xs[(((xs.length : Int) - 1) + (-1) * (k : Int)).toNat]? = xs[(((xs.length : Int) - 1) + (k : Int) * (-1)).toNat]?
  congr 1
  omega
def tRevL (K : PySem.W.Frag) (te ts : TE) : TE := fun σ H Q => te σ H fun x H1 => tPart ts σ H1 fun o H2 => o = some (-1) ∧ ∃ a xs, x = .ref a ∧ SqL K H2 a xs ∧ ∀ p, H2 p = none → Q (.ref p) (upd H2 p (.lst xs.reverse))
theorem pe_revL {e st : Expr} {te ts : TE} {p3 : Pos} (he : PE X e te) (hst : PE X st ts) : PE X (.Subscript e (.Slice none none (some st) p3) pos) (tRevL X.K te ts) := by
  refine ⟨fun pins s σ H Q I h => ?_⟩
  refine Subscript_ (thn (he.run pins s σ H _ I h) fun v s1 ⟨x, H1, I1, r1, q1⟩ => ?_)
  refine wpAny_Slice (thn (po_none.run pins s1 σ H1 (fun o H3 => o = none ∧ H3 = H1) I1 ⟨rfl, rfl⟩) fun vl s2 ⟨l, H2, I2, pl, el, e2⟩ => ?_)
  subst el e2
  refine thn (po_none.run pins s2 σ H2 (fun o H3 => o = none ∧ H3 = H2) I2 ⟨rfl, rfl⟩) fun vu s3 ⟨u, H3, I3, pu, eu, e3⟩ => ?_
  subst eu e3
  refine thn ((po_some hst).run pins s3 σ H3 _ I3 q1) fun vs s4 ⟨o, H4, I4, ps, eo, a, xs, ex, hx, q⟩ => ?_
  subst eo ex
  cases r1
  have I5 : Inv X pins σ H4 { s4 with heap := s4.heap.push { cls := .type "slice", data := .fields #[vl, vu, vs] } } := I4.kept (t' := s4.toks) fun b ob q => Heap.get?_push_of_some _ q
  obtain ⟨its, r, ht, hz⟩ := I5.list hx
  have hlen := r.length
  show wpAny (model X.prog X.w) X.A (subscriptTail e (.Slice none none (some st) p3) (.ref a) (.ref s4.heap.objs.size)) (EP X pins σ Q) X.xe { s4 with heap := s4.heap.push { cls := .type "slice", data := .fields #[vl, vu, vs] } }
  refine tail_any (ops := [.ref a, .ref s4.heap.objs.size]) ht.isList.typeIs (PySem.slot_list_getitem.lookup) ?_ (by with_unfolding_all rfl)
  refine wpAny_getItem_list_slice ht.isList (Heap.IsSliceOf.new _ vl vu vs) pl pu ps (fun z => by cases z) ?_ (by rw [List.size_toArray]; omega)
  rw [cutS_pick, cutS_rev]
  have hr := vals_rev r
  refine ⟨.ref _, _, I5.laid (t' := s4.toks) (o := .lst xs.reverse) (fun b ob q => Heap.get?_push_of_some _ q) (Nat.le_refl _) ?_, rfl, q _ (I5.hok.fresh (Nat.le_refl _))⟩
  exact ⟨by rw [List.length_reverse]; exact hz, _, 0, hr, Heap.get?_push_size _ rfl⟩
theorem ev_revL {e st : Expr} {p3 : Pos} {α : Type} {enc : α → PyData} {xs : List α} (h : EvS X A e true (xs.map enc)) (hc : Ev X A st (.dat (.int (-1)))) : Ev X A (.Subscript e (.Slice none none (some st) p3) pos) (.own (.lst (xs.reverse.map enc))) := fun I0 H0 σ I H rl Q q =>
  wx_of (pe_revL wx_pe wx_pe) (h I0 H0 σ I H rl _ fun p vs I1 H1 g1 hk ha => hc I0 H0 σ I1 H1 (rl.grow g1) _ fun i2 I3 H3 g3 hi2 => ⟨-1, dp_int hi2, rfl, p, vs, rfl, same_l g3.hh hk, fun r hr => by
      have g := g1.trans g3
      have g4 := Grow.newH (o := .lst vs.reverse) g3.ih hr
      refine q _ _ _ (g.trans g4) ⟨r, _, rfl, g.hh.free hr, g3.ih.free hr, upd_same, ?_⟩
      show DpAll X.K I3 vs.reverse _
      rw [List.map_reverse]
      exact dpAll_reverse (dpAll_mono g3.ii ha)⟩)
/-! xs + ys of lists that are read -/
def rCatQ (K : PySem.W.Frag) : R2 := fun x y H Q => ∃ l b xs zs, x = .ref l ∧ y = .ref b ∧ SqL K H l xs ∧ SqL K H b zs ∧ xs.length + zs.length ≤ sizeLine ∧ ∀ p, H p = none → Q (.ref p) (upd H p (.lst (xs ++ zs)))
theorem op_catQ : OpR X (binaryOp .Add) (rCatQ X.K) := by
  intro pins s σ H x y v u Q I rx ry h
  obtain ⟨l, b, xs, zs, rfl, rfl, hH, hB, hz, q⟩ := h
  cases rx
  cases ry
  obtain ⟨its, r, ⟨⟨cls, dd, data, sl⟩, n, ho, hc, hdn, hd⟩, hl⟩ := I.list hH
  obtain ⟨its2, r2, ⟨⟨cls2, dd2, data2, sl2⟩, n2, ho2, hc2, hdn2, hd2⟩, hl2⟩ := I.list hB
  simp only at hc hd hc2 hd2
  subst hc hd hc2 hd2
  have e1 := r.length
  have e2 := r2.length
  refine concat_meets ⟨_, ho, rfl⟩ ⟨_, ho2, rfl⟩ PySem.noFill_list_add PySem.seq_list_add PySem.F.slot_list_add PySem.F.entry_list_add (PySem.F.args_list_add_2 _ _) (PyProof.Rows.list_addW l b its.toArray its2.toArray n n2 dd dd2 sl sl2 (by rw [List.size_toArray, List.size_toArray]; omega)) ⟨ho, ho2, ?_⟩
  have ea : its.toArray ++ its2.toArray = (its ++ its2).toArray := by simp
  rw [ea]
  exact ⟨.ref _, _, I.lnew (t' := s.toks) (r.append r2) (by rw [List.length_append]; omega), rfl, q _ I.fresh⟩
theorem ev_catS {a b : Expr} {ds es : List PyData} (h1 : EvS X A a true ds) (h2 : EvS X A b true es) (hz : ds.length + es.length ≤ sizeLine) : Ev X A (.BinOp a .Add b pos) (.own (.lst (ds ++ es))) := fun I0 H0 σ I H rl Q q =>
  wx_of (pe_op op_catQ wx_pe wx_pe) (h1 I0 H0 σ I H rl _ fun p xs I1 H1 g1 hp ha => h2 I0 H0 σ I1 H1 (rl.grow g1) _ fun p2 ys I2 H2 g2 hp2 hb =>
    ⟨p, p2, xs, ys, rfl, rfl, same_l g2.hh hp, hp2, by rw [dpAll_len ha, dpAll_len hb]; exact hz, fun l hl => by
      have g3 := Grow.newH (o := .lst (xs ++ ys)) g2.ih hl
      exact q _ _ _ ((g1.trans g2).trans g3) ⟨l, _, rfl, (g1.trans g2).hh.free hl, g2.ih.free hl, upd_same, dpAll_append (dpAll_mono g2.ii ha) hb⟩⟩)
end
end LR

set_option Elab.async false
set_option linter.all false
set_option maxRecDepth 100000
set_option maxHeartbeats 4000000
/-! The layer LR, part t: a def called with an own list that stays an own list. -/
namespace LR
open PySem PySem.Spec PyProof.Rows L2

mutual
/-- no list within -/
def noL : PyData → Bool
  | .list _ => false
  | .tuple xs => noLs xs
  | .dict _ => false
  | _ => true
def noLs : List PyData → Bool
  | [] => true
  | x :: r => noL x && noLs r
end
def forget (I : Hp) (p : Addr) : Hp := fun b => if b = p then none else I b
section
variable {K : PySem.W.Frag}
mutual
theorem dp_forget {I : Hp} {p : Addr} {us : List V} (hp : I p = some (.lst us)) : ∀ {v : V} {d : PyData}, Dp K I v d → noL d = true → Dp K (forget I p) v d
  | _, _, .non, _ => .non
  | _, _, .bl b, _ => .bl b
  | _, _, .int i, _ => .int i
  | _, _, .str x, _ => .str x
  | _, _, .lst h a, n => by simp [noL] at n
  | _, _, .dic h, n => by simp [noL] at n
  | _, _, .tup h a, n => by
    simp only [noL] at n
    have keep : ∀ b o, I b = some o → (∀ us, o ≠ .lst us) → forget I p b = some o := fun b o e ho => by
      unfold forget
      rw [if_neg]
      · exact e
      · rintro rfl
        rw [hp] at e
        exact ho us (Option.some.inj e).symm
    exact .tup (keep _ _ h fun _ z => by cases z) (dpAll_forget hp a n)
  | _, _, .tpf h s a, n => by
    simp only [noL] at n
    have keep : ∀ b o, I b = some o → (∀ us, o ≠ .lst us) → forget I p b = some o := fun b o e ho => by
      unfold forget
      rw [if_neg]
      · exact e
      · rintro rfl
        rw [hp] at e
        exact ho us (Option.some.inj e).symm
    exact .tpf (keep _ _ h fun _ z => by cases z) s (dpAll_forget hp a n)
  | _, _, .fz _ _ _ _, n => by simp [noL] at n
theorem dpAll_forget {I : Hp} {p : Addr} {us : List V} (hp : I p = some (.lst us)) : ∀ {vs : List V} {ds : List PyData}, DpAll K I vs ds → noLs ds = true → DpAll K (forget I p) vs ds
  | _, _, .nil, _ => .nil
  | _, _, .cons h t, n => by
    simp only [noLs, Bool.and_eq_true] at n
    exact .cons (dp_forget hp h n.1) (dpAll_forget hp t n.2)
end
end
section
variable {X : Cx} {A : List C} {pos p p2 : Pos} {x y : Str}
/-- f(xs), xs an own list that is read alone; the result is a new list without lists in it -/
theorem ev_callOwn {k : Nat} {ps : List Str} {R : List PyData → Res → Prop} {ds es : List PyData} (j : Nat) (G : Fn X.prog X.w X.K X.mg X.base k x ps R) (hr : Room k X.A) (hg : Gl X x) (hN : X.N[j]? = some y) (hA : A[j]? = some (.own (.lst ds))) (hv : Vis X.env.scope y) (h : R [.list ds] (.ok (.own (.lst es)))) (hn : noLs es = true)
    (hd : (y == ("__debug__" : Str)) = false) (hcd : (y == ("__classdict__" : Str)) = false) (hdb : (x == ("__debug__" : Str)) = false)
    (he : starEach (.Name y p2 :: []) X.env = (false, eval (.Name y p2) X.env) :: starEach [] X.env := by rfl) (hpl : (backTo pos (starEach [] X.env)).any (·.1) = false := by rfl) : Ev X A (.Call (.Name x p) [.Name y p2] [] pos) (.own (.lst es)) := fun I0 H0 σ I H rl Q q => by
  obtain ⟨f, fd, F, hm, hk, hb, _⟩ := G.ex
  obtain ⟨a, o, e1, n0, n, ho, hob⟩ := rl.cell j _ hA
  obtain ⟨vs, rfl, ha⟩ := obAt_lst hob
  have s1 : Same I (upd I a (.lst vs)) := fun b u e => by rw [upd_ne (ne_of_none e n)]; exact e
  refine wx_of (pe_call F hr hg hm hk hb .nil passL (pa_cons (pe_var hN hv hd hcd) pa_nil he) hdb he hpl) ⟨.ref a, e1, ?_⟩
  show Spec X.K X.mg R ([.ref a] ++ []) H Q E0
  refine ⟨upd I a (.lst vs), [.list ds], .ok (.own (.lst es)), fun b u e => ?_, .cons (.lst (.inl (.inl upd_same)) (dpAll_mono s1 ha)) .nil, h, fun v I2 H2 g hv2 => ?_⟩
  · by_cases hb2 : b = a
    · subst hb2; rw [upd_same] at e; rw [← e]; exact ho
    · rw [upd_ne hb2] at e; exact rl.ih b u e
  · have h2 : I2 a = some (.lst vs) := g.ii a _ upd_same
    obtain ⟨c, o2, rfl, m0, m1, m2, hob2⟩ := hv2
    obtain ⟨us, rfl, hus⟩ := obAt_lst hob2
    have fne : ∀ b, b ≠ a → forget I2 a b = I2 b := fun b hb2 => if_neg hb2
    have fa : forget I2 a a = none := if_pos rfl
    refine q _ (forget I2 a) H2 ⟨fun b u e => ?_, g.hh, fun b u e => ?_, fun b u e1 e2 => ?_⟩ ⟨c, _, rfl, m0, ?_, m2, dpAll_forget h2 hus hn⟩
    · have hb2 : b ≠ a := ne_of_none e n
      rw [fne b hb2]
      exact g.ii b u (by rw [upd_ne hb2]; exact e)
    · by_cases hb2 : b = a
      · subst hb2; rw [fa] at e; cases e
      · rw [fne b hb2] at e; exact g.ih b u e
    · by_cases hb2 : b = a
      · subst hb2; exact fa
      · rw [fne b hb2]
        exact g.nw b u e1 (by rw [upd_ne hb2]; exact e2)
    · by_cases hb2 : c = a
      · subst hb2; exact fa
      · rw [fne c hb2]; exact m1
end
end LR

set_option Elab.async false
set_option linter.all false
set_option maxRecDepth 100000
set_option maxHeartbeats 4000000
/-! The layer LR, part u: sum of a tuple. -/
namespace LR
open PySem PySem.Spec PyProof.Rows L2
section
variable {P : Program} {w : World} {K : PySem.W.Frag} {mg : Str → Option Value} {base : Heap} {N : List Str} {sc : Scope} {k : Nat} {X : Cx} {A : List C} {pos p : Pos} {x : Str}
theorem sumT_raw {A : Around} {E : Value → Shared → Prop} {s : Shared} {t : Addr} {its : List Value} {ns : List Int} {Q : Value → Shared → Prop} (hh : A.handled = none) (hl : s.heap.IsTuple t its.toArray) (hi : IntsAre its ns)
    (h : ∀ h' tk t', (∀ b o, s.heap.get? b = some o → h'.get? b = some o) → Q (.int ns.sum t') { s with heap := h', toks := tk }) : wpAny (model P w) A (call (.builtin "sum") [.ref t]) Q E s := by
  obtain ⟨xs, e⟩ := hi.allInts.items
  have hn : numsOf (intItems xs).toList = ns := by rw [← e]; exact hi.numsOf
  rw [nums_intItems] at hn
  rw [e] at hl
  refine PySem.W.ktm_sumG hh hl fun h' tk t' hk => ?_
  have := h h' tk t' hk
  rw [preSum_eq, List.take_of_length_le (by simp), hn]; exact this
def rSumT (K : PySem.W.Frag) : List V → Hp → VK → Prop := fun vs H Q => ∃ (a : Addr) (ns : List Int), vs = [V.ref a] ∧ SqT K H a (ns.map V.int) ∧ Q (.int ns.sum) H
theorem cr_sumT (hc : X.calm = true) : CallR X (.builtin "sum") (rSumT X.K) := by
  intro pins s σ H vs us Q I r h
  obtain ⟨a, ns, rfl, hs, q⟩ := h
  obtain ⟨its, rv, hl, _⟩ := I.tuple hs
  rw [Vals.ref1 r]
  exact sumT_raw (I.ok.hd hc) hl rv.ints fun h' tk t' hk => ⟨.int _, H, I.kept hk, ⟨_, rfl⟩, q⟩
/-- sum(xs) of a tuple of whole numbers -/
theorem sumTF (hX : XF P w K mg base N sc k X) {e : Expr} {ns : List Int} (hg : GlS sc "sum") (hm : mg "sum" = none) (h : Ev X A e (.dat (.tuple (ns.map .int)))) (hb : bootBuiltins "sum" = some (.builtin "sum") := by decide +kernel) (hs : starEach (e :: []) X.env = (false, eval e X.env) :: starEach [] X.env := by rfl) :
    Ev X A (.Call (.Name "sum" p) [e] [] pos) (.dat (.int ns.sum)) := fun I0 H0 σ I H rl Q q =>
  wx_of (pe_callB (cr_sumT hX.calm) (hX.gl hg) (by rw [hX.eM]; exact hm) hb (pa_cons wx_pe pa_nil hs) (by decide) (by decide) hs rfl) (h I0 H0 σ I H rl _ fun v I1 H1 g hv => by
    obtain ⟨a, vs, rfl, hk, ha⟩ := dp_tup (show Dp X.K I1 v (.tuple _) from hv)
    exact ⟨a, ns, rfl, by rw [← ints_of ha]; exact same_t g.ih hk, q _ I1 H1 g (Dp.int _)⟩)
end
end LR

set_option Elab.async false
set_option linter.all false
set_option maxRecDepth 100000
set_option maxHeartbeats 4000000
/-! The layer LR, part v: the def's own dicts: {}, d[k] = v, k in d, d[k], sorted(d). -/
namespace LR
open PySem PySem.Spec PyProof.Rows L2
section
variable {κ β : Type} [DecidableEq κ]
/-- in its place, or at the end -/
def putE (es : List (κ × β)) (k : κ) (d : β) : List (κ × β) := if (es.any fun e => decide (e.1 = k)) = true then es.map (fun e => if e.1 = k then (e.1, d) else e) else es ++ [(k, d)]
def valE (es : List (κ × β)) (k : κ) : Option β := (es.find? fun e => decide (e.1 = k)).map (·.2)
theorem any_keys {γ : Type} : ∀ {es : List (κ × β)} {fs : List (κ × γ)} (k : κ), es.map (·.1) = fs.map (·.1) → (es.any fun e => decide (e.1 = k)) = fs.any fun e => decide (e.1 = k)
  | [], [], _, _ => rfl
  | [], _ :: _, _, h => by simp at h
  | _ :: _, [], _, h => by simp at h
  | a :: es, b :: fs, k, h => by
    simp only [List.map_cons, List.cons.injEq] at h
    rw [List.any_cons, List.any_cons, any_keys k h.2, h.1]
theorem keys_repl (es : List (κ × β)) (k : κ) (d : β) : (es.map fun e => if e.1 = k then (e.1, d) else e).map (·.1) = es.map (·.1) := by
  rw [List.map_map]
  refine List.map_congr_left fun e _ => ?_
  show (if e.1 = k then (e.1, d) else e).1 = e.1
  split <;> rfl
theorem keys_putE (es : List (κ × β)) (k : κ) (d : β) : (putE es k d).map (·.1) = if (es.any fun e => decide (e.1 = k)) = true then es.map (·.1) else es.map (·.1) ++ [k] := by
  unfold putE
  split
  · exact keys_repl es k d
  · rw [List.map_append]; rfl
theorem putK_putE {kvs : List (κ × V)} {k : κ} {v : V} : putK kvs k v = putE kvs k v := rfl
theorem valV_valE {kvs : List (κ × V)} {k : κ} : valV kvs k = valE kvs k := rfl
theorem len_putE (es : List (κ × β)) (k : κ) (d : β) : (putE es k d).length ≤ es.length + 1 := by
  unfold putE
  split
  · rw [List.length_map]; omega
  · rw [List.length_append]; exact Nat.le_refl _
variable {K : PySem.W.Frag} {I : Hp}
theorem dp_repl {v : V} {d : PyData} (k : κ) (hv : Dp K I v d) : ∀ {kvs : List (κ × V)} {es : List (κ × PyData)}, kvs.map (·.1) = es.map (·.1) → DpAll K I (kvs.map (·.2)) (es.map (·.2)) →
    DpAll K I ((kvs.map fun e => if e.1 = k then (e.1, v) else e).map (·.2)) ((es.map fun e => if e.1 = k then (e.1, d) else e).map (·.2))
  | [], [], _, _ => .nil
  | [], _ :: _, h, _ => by simp at h
  | _ :: _, [], h, _ => by simp at h
  | a :: kvs, b :: es, h, hd => by
    simp only [List.map_cons, List.cons.injEq] at h
    rw [List.map_cons, List.map_cons] at hd
    cases hd with
    | cons h1 h2 =>
      simp only [List.map_cons]
      refine .cons ?_ (dp_repl k hv h.2 h2)
      rw [h.1]
      by_cases e : b.1 = k
      · rw [if_pos e, if_pos e]; exact hv
      · rw [if_neg e, if_neg e]; exact h1
theorem dp_put {v : V} {d : PyData} (k : κ) (hv : Dp K I v d) {kvs : List (κ × V)} {es : List (κ × PyData)} (hk : kvs.map (·.1) = es.map (·.1)) (hd : DpAll K I (kvs.map (·.2)) (es.map (·.2))) :
    (putE kvs k v).map (·.1) = (putE es k d).map (·.1) ∧ DpAll K I ((putE kvs k v).map (·.2)) ((putE es k d).map (·.2)) := by
  refine ⟨by rw [keys_putE, keys_putE, any_keys k hk, hk], ?_⟩
  unfold putE
  rw [any_keys k hk]
  split
  · exact dp_repl k hv hk hd
  · rw [List.map_append, List.map_append]
    exact dpAll_append hd (.cons hv .nil)
theorem dp_val (k : κ) : ∀ {kvs : List (κ × V)} {es : List (κ × PyData)}, kvs.map (·.1) = es.map (·.1) → DpAll K I (kvs.map (·.2)) (es.map (·.2)) → ∀ {d : PyData}, valE es k = some d → ∃ v, valE kvs k = some v ∧ Dp K I v d
  | [], [], _, _, d, h => by simp [valE] at h
  | [], _ :: _, h, _, _, _ => by simp at h
  | _ :: _, [], h, _, _, _ => by simp at h
  | a :: kvs, b :: es, h, hd, d, hv => by
    simp only [List.map_cons, List.cons.injEq] at h
    rw [List.map_cons, List.map_cons] at hd
    cases hd with
    | cons h1 h2 =>
      unfold valE at hv ⊢
      rw [List.find?_cons] at hv ⊢
      rw [h.1]
      by_cases e : b.1 = k
      · rw [decide_eq_true e] at hv ⊢
        cases hv
        exact ⟨_, rfl, h1⟩
      · rw [decide_eq_false e] at hv ⊢
        exact dp_val k h.2 h2 hv
theorem some_keys {γ : Type} (k : κ) : ∀ {es : List (κ × β)} {fs : List (κ × γ)}, es.map (·.1) = fs.map (·.1) → (valE es k).isSome = (valE fs k).isSome
  | [], [], _ => rfl
  | [], _ :: _, h => by simp at h
  | _ :: _, [], h => by simp at h
  | a :: es, b :: fs, h => by
    simp only [List.map_cons, List.cons.injEq] at h
    unfold valE
    rw [List.find?_cons, List.find?_cons, h.1]
    by_cases e : b.1 = k
    · rw [decide_eq_true e]; rfl
    · rw [decide_eq_false e]; exact some_keys k h.2
theorem val_none {es : List (κ × β)} {k : κ} (h : k ∉ es.map (·.1)) : valE es k = none := by
  unfold valE
  rw [List.find?_eq_none.mpr]
  · rfl
  · intro e he z
    exact h (List.mem_map.mpr ⟨e, he, of_decide_eq_true z⟩)
theorem val_some_iff (es : List (κ × β)) (k : κ) : (valE es k).isSome = decide (k ∈ es.map (·.1)) := by
  by_cases h : k ∈ es.map (·.1)
  · rw [decide_eq_true h]
    obtain ⟨e, he, e1⟩ := List.mem_map.mp h
    unfold valE
    rw [Option.isSome_map, List.find?_isSome]
    exact ⟨e, he, decide_eq_true e1⟩
  · rw [decide_eq_false h, val_none h]; rfl
end
theorem obAt_dct {K : PySem.W.Frag} {I : Hp} {o : HO} {es : List (Key × PyData)} (h : ObAt K I o (.dct es)) : ∃ kvs : List (Key × V), o = .dK kvs ∧ kvs.map (·.1) = es.map (·.1) ∧ DpAll K I (kvs.map (·.2)) (es.map (·.2)) := by
  cases o with
  | dK kvs => exact ⟨kvs, rfl, h⟩
  | _ => exact h.elim
theorem obAt_dtt {K : PySem.W.Frag} {I : Hp} {o : HO} {es : List (List Key × PyData)} (h : ObAt K I o (.dtt es)) : ∃ kvs : List (List Key × V), o = .dT kvs ∧ kvs.map (·.1) = es.map (·.1) ∧ DpAll K I (kvs.map (·.2)) (es.map (·.2)) := by
  cases o with
  | dT kvs => exact ⟨kvs, rfl, h⟩
  | _ => exact h.elim
abbrev kI (xs : List Int) : List Key := xs.map Sum.inl
theorem kV_kI (xs : List Int) : (kI xs).map kV = xs.map V.int := by rw [List.map_map]; rfl
section
variable {P : Program} {w : World} {K : PySem.W.Frag} {mg : Str → Option Value} {base : Heap} {N : List Str} {sc : Scope} {k : Nat}
variable {X : Cx} {e a b : Expr} {es : List Expr} {A : List C} {pos p p2 : Pos} {x : Str}
/-- {} -/
theorem ev_dct : Ev X A (.Dict [] [] pos) (.own (.dct [])) := fun I0 H0 σ I H rl Q q =>
  wx_of pe_dnewK fun p hp => by
    have g2 := Grow.newH (o := .dK []) rl.ih hp
    exact q _ _ _ g2 ⟨p, .dK [], rfl, hp, rl.ih.free hp, upd_same, rfl, .nil⟩
theorem ev_dtt : Ev X A (.Dict [] [] pos) (.own (.dtt [])) := fun I0 H0 σ I H rl Q q =>
  wx_of pe_dnewT fun p hp => by
    have g2 := Grow.newH (o := .dT []) rl.ih hp
    exact q _ _ _ g2 ⟨p, .dT [], rfl, hp, rl.ih.free hp, upd_same, rfl, .nil⟩
variable (hX : XF P w K mg base N sc k X)
include hX
/-- d[k] = e, k a whole number -/
theorem dputF (j : Nat) {es : List (Key × PyData)} {d : PyData} {i : Int} {ix : Expr} {p3 p4 : Pos} (hN : N[j]? = some x) (hA : A[j]? = some (.own (.dct es))) (hv : Vis sc x) (he : Ev X A e (.dat d)) (hi : Ev X A ix (.dat (.int i))) (hz : es.length < sizeLine) (hd : (x == ("__debug__" : Str)) = false) (hcd : (x == ("__classdict__" : Str)) = false)
    (hs : swapsWith e (some (.Subscript (.Name x p3) ix p4)) pos.line X.env = pure false := by rfl) : S1 X A (.Assign [.Subscript (.Name x p3) ix p4] e pos) (.nx (A.set j (.own (.dct (putE es (.inl i) d))))) := fun I0 H0 σ I H rl D f => by
  obtain ⟨q, o, e1, n0, n, ho, hb⟩ := rl.cell j _ hA
  obtain ⟨kvs, rfl, hk1, hv1⟩ := obAt_dct hb
  refine ws_of (ps_dput (by have := hX.room.un; omega) (pe_var (by rw [hX.eN]; exact hN) (hX.vis hv) hd hcd) wx_pe wx_pe hs) ?_
  refine he I0 H0 σ I H rl _ fun v I1 H1 g1 hd1 => ⟨.ref q, e1, ?_⟩
  refine hi I0 H0 σ I1 H1 (rl.grow g1) _ fun u I2 H2 g2 hu => ?_
  have g := g1.trans g2
  have n1 := g.nw q _ ho n
  refine ⟨q, _, rfl, .inl ⟨kvs, .inl i, g.hh _ _ ho, dp_int hu, ?_, rfl⟩, ?_⟩
  · have := congrArg List.length hk1
    rw [List.length_map, List.length_map] at this
    omega
  · exact f σ I2 _ g.ii (rel_mut (rl.grow g) hA e1 n0 n1 (dp_put (K := X.K) (I := I2) _ (dp_mono g2.ii hd1) hk1 (dpAll_mono g.ii hv1)))
/-- d[k] = e, k a tuple of whole numbers -/
theorem dputTF (j : Nat) {es : List (List Key × PyData)} {d : PyData} {ks : List Int} {ix : Expr} {p3 p4 : Pos} (hN : N[j]? = some x) (hA : A[j]? = some (.own (.dtt es))) (hv : Vis sc x) (he : Ev X A e (.dat d)) (hi : Ev X A ix (.dat (tI ks))) (hz : es.length < sizeLine) (hd : (x == ("__debug__" : Str)) = false) (hcd : (x == ("__classdict__" : Str)) = false)
    (hs : swapsWith e (some (.Subscript (.Name x p3) ix p4)) pos.line X.env = pure false := by rfl) : S1 X A (.Assign [.Subscript (.Name x p3) ix p4] e pos) (.nx (A.set j (.own (.dtt (putE es (kI ks) d))))) := fun I0 H0 σ I H rl D f => by
  obtain ⟨q, o, e1, n0, n, ho, hb⟩ := rl.cell j _ hA
  obtain ⟨kvs, rfl, hk1, hv1⟩ := obAt_dtt hb
  refine ws_of (ps_dput (by have := hX.room.un; omega) (pe_var (by rw [hX.eN]; exact hN) (hX.vis hv) hd hcd) wx_pe wx_pe hs) ?_
  refine he I0 H0 σ I H rl _ fun v I1 H1 g1 hd1 => ⟨.ref q, e1, ?_⟩
  refine hi I0 H0 σ I1 H1 (rl.grow g1) _ fun u I2 H2 g2 hu => ?_
  have g := g1.trans g2
  have n1 := g.nw q _ ho n
  obtain ⟨r, us, rfl, hr, ha⟩ := dp_tupH (show Dp X.K I2 u (.tuple (ks.map .int)) from hu) (by cases ks <;> rfl)
  rw [ints_of ha] at hr
  refine ⟨q, _, rfl, .inr ⟨kvs, kI ks, r, g.hh _ _ ho, rfl, by rw [kV_kI]; exact g2.ih _ _ hr, ?_, rfl⟩, ?_⟩
  · have := congrArg List.length hk1
    rw [List.length_map, List.length_map] at this
    omega
  · exact f σ I2 _ g.ii (rel_mut (rl.grow g) hA e1 n0 n1 (dp_put (K := X.K) (I := I2) _ (dp_mono g2.ii hd1) hk1 (dpAll_mono g.ii hv1)))
/-- k in d -/
theorem inTF (j : Nat) {es : List (List Key × PyData)} {ks : List Int} {ix : Expr} {p3 : Pos} (hN : N[j]? = some x) (hA : A[j]? = some (.own (.dtt es))) (hv : Vis sc x) (hi : Ev X A ix (.dat (tI ks))) (hd : (x == ("__debug__" : Str)) = false) (hcd : (x == ("__classdict__" : Str)) = false) :
    Ev X A (.Compare ix [.In] [.Name x p3] pos) (.dat (.bool ((valE es (kI ks)).isSome))) := fun I0 H0 σ I H rl Q q' => by
  obtain ⟨q, o, e1, n0, n, ho, hb⟩ := rl.cell j _ hA
  obtain ⟨kvs, rfl, hk1, hv1⟩ := obAt_dtt hb
  refine wx_of (pe_cmp (pc_din (by have := hX.room.un; omega) wx_pe (pe_var (by rw [hX.eN]; exact hN) (hX.vis hv) hd hcd))) ?_
  refine hi I0 H0 σ I H rl _ fun u I2 H2 g hu => ⟨.ref q, e1, ?_⟩
  obtain ⟨r, us, rfl, hr, ha⟩ := dp_tupH (show Dp X.K I2 u (.tuple (ks.map .int)) from hu) (by cases ks <;> rfl)
  rw [ints_of ha] at hr
  refine ⟨q, _, rfl, .inr ⟨kvs, kI ks, r, .inl (g.hh _ _ ho), rfl, by rw [kV_kI]; exact g.ih _ _ hr, rfl⟩, q' _ I2 H2 g ?_⟩
  rw [valV_valE, some_keys (kI ks) hk1]
  exact Dp.bl _
theorem etInTF (j : Nat) {es : List (List Key × PyData)} {ks : List Int} {ix : Expr} {p3 : Pos} (hN : N[j]? = some x) (hA : A[j]? = some (.own (.dtt es))) (hv : Vis sc x) (hi : Ev X A ix (.dat (tI ks))) (hd : (x == ("__debug__" : Str)) = false) (hcd : (x == ("__classdict__" : Str)) = false) :
    Et X A (.Compare ix [.In] [.Name x p3] pos) ((valE es (kI ks)).isSome) := fun I0 H0 σ I H rl Q q' => by
  obtain ⟨q, o, e1, n0, n, ho, hb⟩ := rl.cell j _ hA
  obtain ⟨kvs, rfl, hk1, hv1⟩ := obAt_dtt hb
  refine wt_of (pt_cmp (pc_din (by have := hX.room.un; omega) wx_pe (pe_var (by rw [hX.eN]; exact hN) (hX.vis hv) hd hcd))) ?_
  refine hi I0 H0 σ I H rl _ fun u I2 H2 g hu => ⟨.ref q, e1, ?_⟩
  obtain ⟨r, us, rfl, hr, ha⟩ := dp_tupH (show Dp X.K I2 u (.tuple (ks.map .int)) from hu) (by cases ks <;> rfl)
  rw [ints_of ha] at hr
  refine ⟨q, _, rfl, .inr ⟨kvs, kI ks, r, .inl (g.hh _ _ ho), rfl, by rw [kV_kI]; exact g.ih _ _ hr, rfl⟩, _, rfl, ?_⟩
  rw [valV_valE, some_keys (kI ks) hk1]
  exact q' I2 H2 g
/-- d[k], there -/
theorem dgetTF (j : Nat) {es : List (List Key × PyData)} {ks : List Int} {d : PyData} {ix : Expr} {p3 : Pos} (hN : N[j]? = some x) (hA : A[j]? = some (.own (.dtt es))) (hv : Vis sc x) (hi : Ev X A ix (.dat (tI ks))) (hval : valE es (kI ks) = some d) (hd : (x == ("__debug__" : Str)) = false) (hcd : (x == ("__classdict__" : Str)) = false) (hns : NoSl ix) :
    Ev X A (.Subscript (.Name x p3) ix pos) (.dat d) := fun I0 H0 σ I H rl Q q' => by
  obtain ⟨q, o, e1, n0, n, ho, hb⟩ := rl.cell j _ hA
  obtain ⟨kvs, rfl, hk1, hv1⟩ := obAt_dtt hb
  refine wx_of (pe_dget (by have := hX.room.un; omega) (pe_var (by rw [hX.eN]; exact hN) (hX.vis hv) hd hcd) wx_pe hns) ?_
  refine ⟨.ref q, e1, ?_⟩
  refine hi I0 H0 σ I H rl _ fun u I2 H2 g hu => ?_
  obtain ⟨r, us, rfl, hr, ha⟩ := dp_tupH (show Dp X.K I2 u (.tuple (ks.map .int)) from hu) (by cases ks <;> rfl)
  rw [ints_of ha] at hr
  obtain ⟨v, v1, v2⟩ := dp_val (kI ks) hk1 hv1 hval
  exact ⟨q, v, rfl, .inr ⟨kvs, kI ks, r, .inl (g.hh _ _ ho), rfl, by rw [kV_kI]; exact g.ih _ _ hr, v1.symm⟩, q' _ I2 H2 g (dp_mono g.ii v2)⟩
/-- sorted(d), the keys whole numbers -/
theorem sortedDF (j : Nat) {es : List (Key × PyData)} {ks : List Int} {p3 : Pos} (hg : GlS sc "sorted") (hm : mg "sorted" = none) (hN : N[j]? = some x) (hA : A[j]? = some (.own (.dct es))) (hv : Vis sc x) (hk : es.map (·.1) = ks.map Sum.inl) (hz : ks.length < 64) (hd : (x == ("__debug__" : Str)) = false) (hcd : (x == ("__classdict__" : Str)) = false)
    (hs : starEach (.Name x p3 :: []) X.env = (false, eval (.Name x p3) X.env) :: starEach [] X.env := by rfl) (hb : bootBuiltins "sorted" = some (.builtin "sorted") := by decide +kernel) :
    Ev X A (.Call (.Name "sorted" p) [.Name x p3] [] pos) (.own (.lst ((ks.mergeSort fun a b => decide (a ≤ b)).map .int))) := fun I0 H0 σ I H rl Q q' => by
  obtain ⟨q, o, e1, n0, n, ho, hb'⟩ := rl.cell j _ hA
  obtain ⟨kvs, rfl, hk1, hv1⟩ := obAt_dct hb'
  refine wx_of (pe_callB (call_sortedDI hX.calm) (hX.gl hg) (by rw [hX.eM]; exact hm) hb (pa_cons (pe_var (by rw [hX.eN]; exact hN) (hX.vis hv) hd hcd) pa_nil hs) (by decide) (by decide) hs rfl) ?_
  refine ⟨.ref q, e1, q, kvs, ks, rfl, .inl ho, hk1.trans hk, hz, fun ys p' hp' hs' hn' => ?_⟩
  have e : ys = ks.mergeSort fun a b => decide (a ≤ b) := by
    refine List.Perm.eq_of_pairwise (le := fun a b : Int => a ≤ b) (fun a b _ _ h1 h2 => Int.le_antisymm h1 h2) hs' ?_ (hp'.trans (List.mergeSort_perm ks _).symm)
    have := List.pairwise_mergeSort (le := fun a b : Int => decide (a ≤ b)) (fun a b c h1 h2 => decide_eq_true (Int.le_trans (of_decide_eq_true h1) (of_decide_eq_true h2))) (fun a b => by
      simp only [Bool.or_eq_true, decide_eq_true_eq]; omega) ks
    exact this.imp fun h => of_decide_eq_true h
  subst e
  have g2 := Grow.newH (o := .lst ((ks.mergeSort fun a b => decide (a ≤ b)).map V.int)) rl.ih hn'
  exact q' _ _ _ g2 ⟨p', _, rfl, hn', rl.ih.free hn', upd_same, dpAll_ints _⟩
end
end LR

set_option Elab.async false
set_option linter.all false
set_option maxRecDepth 100000
set_option maxHeartbeats 4000000
/-! The layer LR, part w: xs.index(d) of encoded data; whole numbers and texts of the module. -/
namespace LR
open PySem PySem.Spec PyProof.Rows L2
/-- the module's name x is a whole number, a text -/
def MI (mg : Str → Option Value) (x : Str) (i : Int) : Prop := ∃ t, mg x = some (.int i t)
def MT (mg : Str → Option Value) (x : Str) (z : Str) : Prop := ∃ t, mg x = some (.str z t)
section
variable {P : Program} {w : World} {K : PySem.W.Frag} {mg : Str → Option Value} {base : Heap} {N : List Str} {sc : Scope} {k : Nat}
variable {X : Cx} {e a b : Expr} {es : List Expr} {A : List C} {pos p p2 p3 : Pos} {x : Str}
variable (hX : XF P w K mg base N sc k X)
include hX
theorem gIntF {i : Int} (hg : GlS sc x) (hm : MI mg x i) (hd : (x == ("__debug__" : Str)) = false) : Ev X A (.Name x pos) (.dat (.int i)) := fun I0 H0 σ I H rl Q q => by
  obtain ⟨t, ht⟩ := hm
  exact wx_of (pe_glob (X := X) (v := .int i) (hX.gl hg) (by rw [hX.eM]; exact ht) ⟨t, rfl⟩ hd) (q _ I H (Grow.refl rl.ih) (Dp.int i))
theorem gStrF {z : Str} (hg : GlS sc x) (hm : MT mg x z) (hd : (x == ("__debug__" : Str)) = false) : Ev X A (.Name x pos) (.dat (.str z)) := fun I0 H0 σ I H rl Q q => by
  obtain ⟨t, ht⟩ := hm
  exact wx_of (pe_glob (X := X) (v := .str z) (hX.gl hg) (by rw [hX.eM]; exact ht) ⟨t, rfl⟩ hd) (q _ I H (Grow.refl rl.ih) (Dp.str z))
/-- xs.index(d), d in xs -/
theorem indexF {α : Type} [DecidableEq α] {enc : α → PyData} {dd : Nat} {e e2 : Expr} {y : α} {xs : List α} {j : Nat} (E : Enc enc dd) (hd : dd ≤ 62) (h1 : Ev X A e (.dat (.list (xs.map enc)))) (h2 : Ev X A e2 (.dat (enc y))) (hj : j < xs.length) (hy : xs[j] = y) (hl : ∀ (i : Nat) (h : i < xs.length), i < j → xs[i] ≠ y)
    (hbase : attributeBase e "index" X.env (eval e X.env) = eval e X.env := by rfl) (hs : starEach (e2 :: []) X.env = (false, eval e2 X.env) :: starEach [] X.env := by rfl)
    (hpl : ((backTo p3 (starEach (e2 :: []) X.env)).all (fun x => !x.1) && (backToKw p3 (keywordEach [] X.env)).all (fun x => x.1.isSome) && decide (([e2] : List Expr).length + ([] : List Keyword).length + (if ([] : List Keyword).isEmpty then 0 else 1) < 30)) = true := by rfl) (hline : (p2.endLine == p3.line) = true := by rfl) :
    Ev X A (.Call (.Attribute e "index" p2) [e2] [] p3) (.dat (.int (j : Nat))) := fun I0 H0 σ I H rl Q q =>
  wx_of (pe_bm PySem.F.plainAttrs_list PySem.F.slot_list_index PySem.F.type_list_index (mt_indexD (by have := hX.room.un; omega)) wx_pe (pa_cons wx_pe pa_nil hs) (hbase := hbase) (hfew := hpl) (hline := hline) (hs := hs) (hplain := rfl)) (h1 I0 H0 σ I H rl _ fun u I1 H1 g1 hu => by
    obtain ⟨a, vs, rfl, hk, ha⟩ := dp_lst (show Dp X.K I1 u (.list _) from hu)
    refine ⟨.inl ⟨rfl, _, same_l g1.ih hk⟩, h2 I0 H0 σ I1 H1 (rl.grow g1) _ fun v I2 H2 g2 hv => ?_⟩
    refine ⟨a, v, enc y, xs.map enc, j, enc xs[j], rfl, rfl, (Dp.lst (same_l (g2.hh) (same_l g1.ih hk)) (dpAll_mono g2.ih (dpAll_mono g2.ii ha))).kit (E.lst.shaped (by omega) xs), (dp_mono g2.ih hv).kit (E.shaped (by omega) y), E.lst.shaped (by omega) xs, E.shaped (by omega) y, ?_, ?_, ?_, q _ I2 H2 (g1.trans g2) (.int _)⟩
    · rw [List.getElem?_map, List.getElem?_eq_getElem hj]; rfl
    · rw [E.eqv, hy]; exact decide_eq_true rfl
    · intro m z' hm hz
      have hm2 : m < xs.length := by omega
      rw [List.getElem?_map, List.getElem?_eq_getElem hm2] at hz
      cases hz
      rw [E.eqv]
      exact decide_eq_false (hl m hm2 hm))
end
end LR

set_option Elab.async false
set_option linter.all false
set_option maxRecDepth 100000
set_option maxHeartbeats 4000000
/-! The layer LR, part x: list(range(n)); a result that is a new tuple with a new list behind. -/
namespace LR
open PySem PySem.Spec PyProof.Rows L2
section
variable {P : Program} {w : World} {K : PySem.W.Frag} {mg : Str → Option Value} {base : Heap} {N : List Str} {sc : Scope} {k : Nat}
variable {X : Cx} {e a b : Expr} {es : List Expr} {A : List C} {pos p p2 p3 p4 : Pos} {x : Str}
theorem rg0 (n : Int) : rgV 0 n = ((List.range n.toNat).map fun i : Nat => (i : Int)).map V.int := by
  unfold rgV
  rw [List.map_map, Int.sub_zero]
  refine List.map_congr_left fun i _ => ?_
  show V.int (0 + (i : Int)) = V.int (i : Int)
  rw [Int.zero_add]
/-- a new tuple, its last item the def's new list -/
theorem ev_tupO3 {e1 e2 e3 : Expr} {d1 d2 : PyData} {es : List PyData} {kk} (h1 : Ev X A e1 (.dat d1)) (h2 : Ev X A e2 (.dat d2)) (h3 : Ev X A e3 (.own (.lst es)))
    (n1 : starEach (e1 :: [e2, e3]) X.env = (false, eval e1 X.env) :: starEach [e2, e3] X.env := by rfl) (n2 : starEach (e2 :: [e3]) X.env = (false, eval e2 X.env) :: starEach [e3] X.env := by rfl) (n3 : starEach (e3 :: []) X.env = (false, eval e3 X.env) :: starEach [] X.env := by rfl) :
    Ev X A (.Tuple [e1, e2, e3] kk pos) (.tpo [d1, d2] es) := fun I0 H0 σ I H rl Q q' =>
  wx_of (pe_tup (pa_cons wx_pe (pa_cons wx_pe (pa_cons wx_pe pa_nil n3) n2) n1)) (h1 I0 H0 σ I H rl _ fun v1 I1 H1 g1 hv1 => h2 I0 H0 σ I1 H1 (rl.grow g1) _ fun v2 I2 H2 g2 hv2 => h3 I0 H0 σ I2 H2 ((rl.grow g1).grow g2) _ fun v3 I3 H3 g3 hv3 => by
    obtain ⟨q, o, rfl, m, m', hq, hb⟩ := hv3
    obtain ⟨us, rfl, ha⟩ := obAt_lst hb
    have g := (g1.trans g2).trans g3
    have mh : H q = none := (g1.hh.trans g2.hh).free m
    refine ⟨by rw [sizeLine_eq]; show 3 ≤ 16777216; decide, fun p hp => ?_⟩
    have g4 := Grow.newH (o := .tup [v1, v2, .ref q]) g.ih hp
    have hpq : q ≠ p := ne_of_none hq hp
    exact q' _ _ _ (g.trans g4) ⟨p, q, [v1, v2], us, rfl, g.hh.free hp, g.ih.free hp, upd_same, .cons (dp_mono (g2.trans g3).ii hv1) (.cons (dp_mono g3.ii hv2) .nil), mh, m', by rw [upd_ne hpq]; exact hq, ha⟩)
/-- .. as data -/
theorem ev_soft {ds es : List PyData} (h : Ev X A e (.tpo ds es)) : Ev X A e (.dat (.tuple (ds ++ [.list es]))) := fun I0 H0 σ I H rl Q q' =>
  h I0 H0 σ I H rl Q fun v I1 H1 g hv => by
    obtain ⟨p, q, vs, us, rfl, n1, n2, h1, a1, m1, m2, h2, a2⟩ := hv
    have g2 := g.know (o := .lst us) m1 m2 h2
    have hpq : p ≠ q := fun z => by
      subst z
      rw [h1] at h2
      cases h2
    have n2' : upd I1 q (.lst us) p = none := by rw [upd_ne hpq]; exact n2
    have g3 := g2.know (o := .tup (vs ++ [.ref q])) n1 n2' h1
    have s2 : Same I1 (upd I1 q (.lst us)) := fun b u z => by rw [upd_ne (ne_of_none z m2)]; exact z
    have s3 : Same (upd I1 q (.lst us)) (upd (upd I1 q (.lst us)) p (.tup (vs ++ [.ref q]))) := fun b u z => by rw [upd_ne (ne_of_none z n2')]; exact z
    exact q' _ _ _ g3 (.tup upd_same (dpAll_append (dpAll_mono (s2.trans s3) a1) (dpAll_one (.lst (.inl (.inl (s3 _ _ upd_same))) (dpAll_mono (s2.trans s3) a2)))))
theorem tg_namesO {K : PySem.W.Frag} {jl : Nat} {q0 : Addr} {o : HO} {b : Ob} {I0 H0 I H : Hp} (n0 : H0 q0 = none) (n1 : I q0 = none) (ho : H q0 = some o) (hb : ObAt K I o b) : ∀ {js : List Nat} {σ : L2.St} {A A' : List C} {ds : List PyData} {vs : List V}, uNames js A ds A' → A'[jl]?.isSome = true → Rel K I0 H0 A σ I H → DpAll K I vs ds →
    (∀ i : Nat, isOwn A[i]? → σ[i]? ≠ some (some (.ref q0))) → ∀ Q : L2.St → Hp → Prop, (∀ σ', Rel K I0 H0 (A'.set jl (.own b)) σ' I H → Q σ' H) → gNames (js ++ [jl]) (vs ++ [.ref q0]) σ H Q
  | [], _, _, _, _, _, ⟨e1, e2⟩, hj, r, hv, far, Q, q => by
    subst e1 e2
    cases hv
    exact ⟨_, _, rfl, rfl, q _ (rel_own (Hs := H) r (lt_of_some hj) n0 n1 ho hb far)⟩
  | j :: js, σ, A, A', ds, vs, ⟨d, rd, e1, hj, u⟩, hjl, r, hv, far, Q, q => by
    subst e1
    cases hv with
    | cons h1 h2 =>
      refine ⟨_, _, rfl, tg_namesO n0 n1 ho hb u hjl (rel_set r h1 (lt_of_some hj)) h2 (fun i hi => ?_) Q q⟩
      by_cases ji : j = i
      · subst ji
        rw [List.getElem?_set_self (lt_of_some hj)] at hi
        exact hi.elim
      · rw [List.getElem?_set_ne ji] at hi ⊢
        exact far i hi
def noLC : C → Bool
  | .un => true
  | .dat d => noL d
  | .rf _ => true
  | _ => false
/-- a statement in which an own list is read alone -/
theorem s1_lend (j : Nat) {ds : List PyData} {st : Stmt} {A2 : List C} (hA : A[j]? = some (.own (.lst ds))) (hn : noLs ds = true) (h : ∀ a, S1 X (A.set j (.kn a (.list ds))) st (.nx (A2.set j (.kn a (.list ds))))) (hok : ∀ i c, i ≠ j → A2[i]? = some c → noLC c = true) (hj2 : j < A2.length) :
    S1 X A st (.nx (A2.set j (.own (.lst ds)))) := fun I0 H0 σ I H rl D f => by
  have hj : j < A.length := by
    by_cases hj : j < A.length
    · exact hj
    · rw [List.getElem?_eq_none (by omega)] at hA; cases hA
  obtain ⟨q, o', e1, n0, n, ho, hb⟩ := rl.cell j _ hA
  obtain ⟨vs, rfl, ha⟩ := obAt_lst hb
  have s2 : Same I (upd I q (.lst vs)) := fun b u z => by rw [upd_ne (ne_of_none z n)]; exact z
  refine h q I0 H0 σ (upd I q (.lst vs)) H ⟨rl.gr.know n0 n ho, by rw [List.length_set]; exact rl.len, fun i c hc => ?_, fun i i' r ne o1 o2 hr => ?_⟩ D fun σ' I2 H2 sm r2 => ?_
  · by_cases hi : j = i
    · subst hi
      rw [List.getElem?_set_self hj] at hc
      cases hc
      exact ⟨e1, .lst (.inl (.inl upd_same)) (dpAll_mono s2 ha)⟩
    · rw [List.getElem?_set_ne hi] at hc
      have z := rl.cell i c hc
      cases c with
      | un => trivial
      | rf a => exact z
      | tpo ds es => trivial
      | kn a d => exact ⟨z.1, dp_mono s2 z.2⟩
      | dat d => obtain ⟨v, e2, hd⟩ := z; exact ⟨v, e2, dp_mono s2 hd⟩
      | own b =>
        obtain ⟨q2, o2, e2, m0, m, ho2, hb2⟩ := z
        have hne : q2 ≠ q := fun z => by
          subst z
          exact rl.apart j i q2 hi (by rw [hA]; trivial) (by rw [hc]; trivial) e1 e2
        exact ⟨q2, o2, e2, m0, by rw [upd_ne hne]; exact m, ho2, obAt_mono s2 hb2⟩
  · have key : ∀ i : Nat, isOwn (A.set j (.kn q (.list ds)))[i]? → isOwn A[i]? := fun i o => by
      by_cases hi : j = i
      · subst hi; rw [List.getElem?_set_self hj] at o; exact o.elim
      · rw [List.getElem?_set_ne hi] at o; exact o
    exact rl.apart i i' r ne (key i o1) (key i' o2) hr
  · have hq2 : I2 q = some (.lst vs) := sm q _ upd_same
    have fne : ∀ b, b ≠ q → forget I2 q b = I2 b := fun b hb2 => if_neg hb2
    have fa : forget I2 q q = none := if_pos rfl
    refine f σ' (forget I2 q) H2 (fun b u e => ?_) ⟨⟨fun b u e => ?_, r2.gr.hh, fun b u e => ?_, fun b u e1' e2 => ?_⟩, by rw [List.length_set]; have := r2.len; rw [List.length_set] at this; exact this, fun i c hc => ?_, fun i i' r ne o1 o2 hr => ?_⟩
    · have hb2 : b ≠ q := ne_of_none e n
      rw [fne b hb2]
      exact sm b u (by rw [upd_ne hb2]; exact e)
    · have hb2 : b ≠ q := fun z => by
        subst z
        have := rl.gr.ii _ _ e
        rw [n] at this
        cases this
      rw [fne b hb2]
      exact r2.gr.ii b u e
    · by_cases hb2 : b = q
      · subst hb2; rw [fa] at e; cases e
      · rw [fne b hb2] at e; exact r2.gr.ih b u e
    · by_cases hb2 : b = q
      · subst hb2; exact fa
      · rw [fne b hb2]; exact r2.gr.nw b u e1' e2
    · by_cases hi : j = i
      · subst hi
        rw [List.getElem?_set_self hj2] at hc
        cases hc
        have z := r2.cell j (.kn q (.list ds)) (by rw [List.getElem?_set_self hj2])
        exact ⟨q, .lst vs, z.1, n0, fa, r2.gr.ih _ _ hq2, show DpAll X.K (forget I2 q) vs ds from dpAll_forget hq2 (dpAll_mono (s2.trans sm) ha) hn⟩
      · rw [List.getElem?_set_ne hi] at hc
        have z := r2.cell i c (by rw [List.getElem?_set_ne hi]; exact hc)
        have hl := hok i c (fun e => hi e.symm) hc
        cases c with
        | un => trivial
        | rf a => exact z
        | dat d => obtain ⟨v, e2, hd⟩ := z; exact ⟨v, e2, dp_forget hq2 hd hl⟩
        | tpo ds es => cases hl
        | kn a d => cases hl
        | own b => cases hl
    · have key : ∀ i : Nat, isOwn (A2.set j (.own (.lst ds)))[i]? → i = j := fun i o => by
        by_cases hi : j = i
        · exact hi.symm
        · rw [List.getElem?_set_ne hi] at o
          cases hc : A2[i]? with
          | none => rw [hc] at o; exact o.elim
          | some c =>
            rw [hc] at o
            cases c with
            | own b => have := hok i _ (fun e => hi e.symm) hc; cases this
            | un => exact o.elim
            | rf a => exact o.elim
            | dat d => exact o.elim
            | tpo ds es => exact o.elim
            | kn a d => exact o.elim
      exact absurd ((key i o1).trans (key i' o2).symm) ne
/-- a new dict, looked at no more -/
theorem ev_frzD {es : List (Key × PyData)} (h : Ev X A e (.own (.dct es))) : Ev X A e (.dat (.dict [])) := fun I0 H0 σ I H r Q q =>
  h I0 H0 σ I H r Q fun v I' H' g hv => by
    obtain ⟨p, o, rfl, n, n', h', hb⟩ := hv
    obtain ⟨kvs, rfl, _⟩ := obAt_dct hb
    exact q _ _ _ (g.know (o := .dK kvs) n n' h') (.dic upd_same)
/-- {i: d}, looked at no more -/
theorem ev_disp1 {e1 e2 : Expr} {i : Int} {d : PyData} (h1 : Ev X A e1 (.dat (.int i))) (h2 : Ev X A e2 (.dat d)) : Ev X A (.Dict [some e1] [e2] pos) (.dat (.dict [])) := fun I0 H0 σ I H rl Q q' =>
  wx_of (pe_disp (pps_cons (wx_pe (e := e1)) (wx_pe (e := e2)) pps_nil) rfl rfl (by simp) (show 1 ≤ 15 by decide)) fun p hp => by
    have g0 := Grow.newH (o := .dK []) rl.ih hp
    have n0 := rl.ih.free hp
    refine h1 I0 H0 σ I _ (rl.grow g0) _ fun v1 I1 H1 g1 hv1 => h2 I0 H0 σ I1 H1 ((rl.grow g0).grow g1) _ fun v2 I2 H2 g2 hv2 => ?_
    have g := g1.trans g2
    have hp2 : H2 p = some (.dK []) := g.hh _ _ upd_same
    have np : I2 p = none := g.nw p _ upd_same n0
    refine ⟨hp2, [(.inl i, v2)], by rw [dp_int hv1]; rfl, show 1 ≤ 15 by decide, ?_⟩
    have gm := ((g0.trans g).mut (o := .dK (mergeK [] [(.inl i, v2)])) hp np).know (o := .dK (mergeK [] [(.inl i, v2)])) hp np upd_same
    exact q' _ _ _ gm (.dic upd_same)
variable (hX : XF P w K mg base N sc k X)
include hX
theorem knF (i : Nat) {a : Addr} {d : PyData} (hN : N[i]? = some x) (hA : A[i]? = some (.kn a d)) (hv : Vis sc x) (hd : (x == ("__debug__" : Str)) = false) (hcd : (x == ("__classdict__" : Str)) = false) : Ev X A (.Name x pos) (.dat d) := fun I0 H0 σ I H rl Q q' => by
  obtain ⟨e1, h1⟩ := rl.cell i _ hA
  exact wx_of (pe_var (by rw [hX.eN]; exact hN) (hX.vis hv) hd hcd) ⟨.ref a, e1, q' _ I H (.refl rl.ih) h1⟩
theorem listRgF {n : Int} (hgl : GlS sc "list") (hml : mg "list" = none) (hgr : GlS sc "range") (hmr : mg "range" = none) (h : Ev X A e (.dat (.int n))) (h1 : 0 ≤ n) (h2 : n ≤ 16777216)
    (na : starEach [e] X.env = (false, eval e X.env) :: starEach [] X.env := by rfl) (nb : starEach [.Call (.Name "range" p2) [e] [] p3] X.env = (false, eval (.Call (.Name "range" p2) [e] [] p3) X.env) :: starEach [] X.env := by rfl) :
    Ev X A (.Call (.Name "list" p) [.Call (.Name "range" p2) [e] [] p3] [] pos) (.own (.lst (((List.range n.toNat).map fun i : Nat => (i : Int)).map .int))) := fun I0 H0 σ I H rl Q q' =>
  wx_of (pe_listRg hX.calm (hX.gl hgl) (by rw [hX.eM]; exact hml) (prg_1 (hX.gl hgr) (by rw [hX.eM]; exact hmr) wx_pe na) nb) (h I0 H0 σ I H rl _ fun v I1 H1 g hv => ⟨n, dp_int hv, RgOk.of_le (by omega) h2 (by omega) h1, fun q hq => by
    have g2 := Grow.newH (o := .lst (rgV 0 n)) g.ih hq
    refine q' _ _ _ (g.trans g2) ⟨q, _, rfl, g.hh.free hq, g.ih.free hq, upd_same, ?_⟩
    rw [rg0]
    exact dpAll_ints _⟩)
/-- a, b, .. = a new tuple with a new list behind -/
theorem unpO {js : List Nat} {jl : Nat} {ds es : List PyData} {A' : List C} {tgs : List Expr} {kk} (hg : PGs X tgs (gNames (js ++ [jl]))) (he : Ev X A e (.tpo ds es)) (hu : uNames js A ds A') (hjl : A'[jl]?.isSome = true) (hlen : (assignEach tgs X.env).length = (js ++ [jl]).length := by rfl) (hst : (assignEach tgs X.env).findIdx? (·.1) = none := by rfl)
    (hs : swapsWithSole [.Tuple tgs kk p2] e pos.line X.env = pure false := by rfl) (hw : swappedStores [.Tuple tgs kk p2] e X.env = pure none := by rfl) : S1 X A (.Assign [.Tuple tgs kk p2] e pos) (.nx (A'.set jl (.own (.lst es)))) := fun I0 H0 σ I H rl D f =>
  ws_of (ps_asg wx_pe (pg_tup hX.calm hg hlen hst) hs hw) (he I0 H0 σ I H rl _ fun v I1 H1 g hv => by
    obtain ⟨p, q, vs, us, rfl, n1, n2, h1, a1, m1, m2, h2, a2⟩ := hv
    refine ⟨p, vs ++ [.ref q], rfl, .inl (.inl h1), ?_, tg_namesO (b := .lst es) (rl.gr.hh.free m1) m2 h2 (show ObAt X.K I1 (.lst us) (.lst es) from a2) hu hjl (rl.grow g) a1 (fun i hi => rl.far m1 i hi) _ fun σ' r' => f σ' I1 H1 g.ii r'⟩
    rw [List.length_append, List.length_append, dpAll_len a1, uNames_len hu]
    rfl)
end
end LR

set_option Elab.async false
set_option linter.all false
set_option maxRecDepth 100000
set_option maxHeartbeats 4000000
/-! The layer LR, part y: name = xs.pop(i), abs. -/
namespace LR
open PySem PySem.Spec PyProof.Rows L2
theorem dpAll_erase {K : PySem.W.Frag} {H : Hp} : ∀ {vs : List V} {ds : List PyData} (n : Nat), DpAll K H vs ds → DpAll K H (vs.eraseIdx n) (ds.eraseIdx n)
  | _, _, _, .nil => .nil
  | _, _, 0, .cons h t => t
  | _, _, n + 1, .cons h t => .cons h (dpAll_erase n t)
section
variable {P : Program} {w : World} {K : PySem.W.Frag} {mg : Str → Option Value} {base : Heap} {N : List Str} {sc : Scope} {k : Nat}
variable {X : Cx} {e a b : Expr} {es : List Expr} {A : List C} {pos p p2 p3 p4 : Pos} {x y : Str}
variable (hX : XF P w K mg base N sc k X)
include hX
theorem absF {i : Int} (hg : GlS sc "abs") (hm : mg "abs" = none) (h : Ev X A e (.dat (.int i))) (hs : starEach (e :: []) X.env = (false, eval e X.env) :: starEach [] X.env := by rfl) (hb : bootBuiltins "abs" = some (.builtin "abs") := by decide +kernel) :
    Ev X A (.Call (.Name "abs" p) [e] [] pos) (.dat (.int (if i < 0 then -i else i))) := fun I0 H0 σ I H rl Q q =>
  wx_of (pe_callB call_abs (hX.gl hg) (by rw [hX.eM]; exact hm) hb (pa_cons wx_pe pa_nil hs) (by decide) (by decide) hs rfl) (h I0 H0 σ I H rl _ fun v I1 H1 g hv => ⟨i, by rw [dp_int hv], q _ I1 H1 g (Dp.int _)⟩)
/-- name = [.. if ..] -/
theorem setLcIf {α : Type} {elt iter c : Expr} {scope : Scope} {src : List PyData} {y : Str} {py spos : Pos} (i j : Nat) (xs : List α) (enc : α → PyData) (pr : α → Bool) (f : α → PyData) (hi : EvI X A (.Name x p) iter src) (hsrc : src = xs.map enc) (ok : blkC N sc scope [(x, j)] = true)
    (hN : N[j]? = some x) (hx : (relS scope sc).names.lookup x = some .local) (hz : xs.length < sizeLine) (hj : A[j]?.isSome = true)
    (hb : ∀ Y, XF P w K mg base N (relS scope sc) k Y → ∀ z ∈ xs, Et Y ((A.set j .un).set j (.dat (enc z))) c (pr z) ∧ (pr z = true → Ev Y ((A.set j .un).set j (.dat (enc z))) elt (.dat (f z))))
    (hyN : N[i]? = some y) (hyl : sc.names.lookup y = some .local) (hyj : A[i]?.isSome = true) (hk : sc.kind = .function) (hl : (py.line == pos.line) = true) (ha : (scope.names.any fun (n, k) => n == y && (k == .local || k == .cell)) = false)
    (hs : ∀ x, foldedSetIterable iter X.env x = pure x := by intro _; rfl) : S1 X A (.Assign [.Name y py] (.ListComp elt [⟨.Name x p, iter, [c], 0⟩] scope pos) spos) (.nx (A.set i (.own (.lst ((xs.filter pr).map f))))) :=
  s1_setLc (own := [(x, j)]) (g := gName j) (U := uName j) (A := A) (elt := elt) (ifs := [c]) (pos := pos) (spos := spos) (py := py) xs enc pr f hX.calm hX.ndX hi hsrc (by rw [hX.eN, hX.eS]; exact blkOk_by ok) (fun s H C cl fp => tgB hX.blk j hN hx) tg_name tgw_name (Nat.le_refl _) hz
    (fun z hz => ⟨_, ⟨by show ((A.set j .un)[j]?).isSome = true; rw [List.getElem?_set_self (lt_of_some hj)]; rfl, rfl⟩, fun s H C cl fp => (hb _ hX.blk z hz).1, fun h s H C cl fp => (hb _ hX.blk z hz).2 h⟩) hs (i := i) (y := y) (by rw [hX.eN]; exact hyN) (by rw [hX.eS]; exact hyl) (sw_true (by rw [hX.eS]; exact hk) (by rw [hX.eS]; exact hyl) hl ha) hyj
/-- y = xs.pop(i), xs the def's own list -/
theorem popAtF (hT : XT X) (i j : Nat) {ds : List PyData} {d : PyData} {n : Nat} {pos' : Pos} (hNy : N[i]? = some y) (hy : L2.Loc sc y) (hN : N[j]? = some x) (hA : A[j]? = some (.own (.lst ds))) (hij : i ≠ j) (hi : A[i]?.isSome = true) (hv : Vis sc x) (he : Ev X A e (.dat (.int n))) (hk : ds[n]? = some d) (hz : ds.length ≤ sizeLine)
    (hd : (x == ("__debug__" : Str)) = false) (hcd : (x == ("__classdict__" : Str)) = false)
    (hs : starEach (e :: []) X.env = (false, eval e X.env) :: starEach [] X.env := by rfl) (hpl : ((backTo p3 (starEach (e :: []) X.env)).all (fun x => !x.1) && (backToKw p3 (keywordEach [] X.env)).all (fun x => x.1.isSome) && decide (([e] : List Expr).length + ([] : List Keyword).length + (if ([] : List Keyword).isEmpty then 0 else 1) < 30)) = true := by rfl) (hline : (p2.endLine == p3.line) = true := by rfl)
    (hsw : swapsWith (.Call (.Attribute (.Name x p) "pop" p2) [e] [] p3) (some (.Name y pos')) p4.line X.env = pure false := by rfl) :
    S1 X A (.Assign [.Name y pos'] (.Call (.Attribute (.Name x p) "pop" p2) [e] [] p3) p4) (.nx ((A.set j (.own (.lst (ds.eraseIdx n)))).set i (.dat d))) := fun I0 H0 σ I H rl D f => by
  obtain ⟨q, o, e1, n0, nn, ho, hb⟩ := rl.cell j _ hA
  obtain ⟨vs, rfl, ha⟩ := obAt_lst hb
  have hl : n < ds.length := by
    refine Classical.byContradiction fun z => ?_
    rw [List.getElem?_eq_none (by omega)] at hk
    cases hk
  refine ws_of (ps_set hX.ndX (by rw [hX.eN]; exact hNy) (hX.loc hy) (pe_bm PySem.F.plainAttrs_list PySem.F.slot_list_pop PySem.F.type_list_pop mt_popAt (pe_var (by rw [hX.eN]; exact hN) (hX.vis hv) hd hcd) (pa_cons wx_pe pa_nil hs) (hfew := hpl) (hline := hline) (hs := hs) (hplain := rfl)) hsw (.inl (hT.fn _))) ?_
  refine ⟨.ref q, e1, .inl ⟨rfl, _, .inl (.inl ho)⟩, ?_⟩
  refine he I0 H0 σ I H rl _ fun v I1 H1 g hv1 => ?_
  obtain ⟨u, hu, hdu⟩ := dpAll_get ha hk
  have n1 := g.nw q _ ho nn
  have lv := dpAll_len ha
  rw [sizeLine_eq] at hz
  refine ⟨q, vs, n, n, u, rfl, by rw [dp_int hv1], g.hh _ _ ho, by omega, by omega, ?_, hu, ?_⟩
  · unfold seqIndex?
    simp
    omega
  · refine f _ I1 _ g.ii (rel_set (rel_mut (rl.grow g) hA e1 n0 n1 (show ObAt X.K I1 (.lst (vs.eraseIdx n)) (.lst (ds.eraseIdx n)) from dpAll_erase n (dpAll_mono g.ii ha))) (dp_mono g.ii hdu) ?_)
    rw [List.length_set]
    exact lt_of_some hi
end
end LR

set_option Elab.async false
set_option linter.all false
set_option maxRecDepth 100000
set_option maxHeartbeats 4000000
/-! The layer LR, part z: len(set(xs)) of unlike tuples of whole numbers; for x, y, z in .. -/
namespace LR
open PySem PySem.Spec PyProof.Rows L2
theorem dpAll_ks {K : PySem.W.Frag} {I : Hp} : ∀ {ts : List (List Int)} {vs : List V}, DpAll K I vs (ts.map tI) → ∃ ks : List (Addr × List Int), vs = ks.map (fun p => V.ref p.1) ∧ ks.map (·.2) = ts ∧ ∀ p ∈ ks, SqT K I p.1 (p.2.map V.int)
  | [], _, .nil => ⟨[], rfl, rfl, fun _ h => nomatch h⟩
  | t :: ts, _, .cons h r => by
    obtain ⟨ks, e1, e2, h3⟩ := dpAll_ks (ts := ts) r
    obtain ⟨a, xs, rfl, hk, ha⟩ := dp_tup (show Dp K I _ (.tuple (t.map .int)) from h)
    rw [ints_of ha] at hk
    refine ⟨(a, t) :: ks, by rw [e1]; rfl, by rw [← e2]; rfl, fun p hp => ?_⟩
    rcases List.mem_cons.mp hp with rfl | hp
    · exact hk
    · exact h3 p hp
section
variable {P : Program} {w : World} {K : PySem.W.Frag} {mg : Str → Option Value} {base : Heap} {N : List Str} {sc : Scope} {k : Nat}
variable {X : Cx} {e a b : Expr} {es : List Expr} {A : List C} {pos p p2 p3 p4 q0 : Pos} {x y : Str}
variable (hX : XF P w K mg base N sc k X)
include hX
theorem lenSetTF {ts us : List (List Int)} (hgl : GlS sc "len") (ml : mg "len" = none) (hgs : GlS sc "set") (ms : mg "set" = none) (h : EvS X A e true (ts.map tI)) (few : ts.length < 64) (nd : us.Nodup) (same : ∀ z, z ∈ us ↔ z ∈ ts) (na : starEach [e] X.env = (false, eval e X.env) :: starEach [] X.env := by rfl) :
    Ev X A (.Call (.Name "len" p) [.Call (.Name "set" p2) [e] [] q0] [] pos) (.dat (.int us.length)) := fun I0 H0 σ I H rl Q q' => by
  have hw : Wx X e σ H (fun x H1 => ∃ (l : Addr) (ks : List (Addr × List Int)), x = V.ref l ∧ SqL X.K H1 l (ks.map fun p => V.ref p.1) ∧ (∀ p ∈ ks, SqT X.K H1 p.1 (p.2.map V.int)) ∧ ks.map (·.2) = ts ∧ Q (.int us.length) H1) := h I0 H0 σ I H rl _ fun pa vs I1 H1 g hk ha => by
    obtain ⟨ks, rfl, e2, h3⟩ := dpAll_ks ha
    exact ⟨pa, ks, rfl, hk, fun p hp => same_t g.ih (h3 p hp), e2, q' _ I1 H1 g (.int _)⟩
  intro pins s Iv
  refine Call_ (ld_blt Iv (hX.gl hgl) (by rw [hX.eM]; exact ml) PySem.boot_len ?_)
  refine PyProof.Rows.callWith_builtin1 (PyProof.Rows.args_cons ?_ rfl) rfl rfl
  refine Call_ (ld_blt Iv (hX.gl hgs) (by rw [hX.eM]; exact ms) PyProof.Rows.boot_set ?_)
  refine PyProof.Rows.callWith_type1 (PyProof.Rows.args_cons (thn (hw pins s Iv) fun v s1 ⟨x, H1, I1, r1, q1⟩ => PyProof.Rows.args_nil ?_) na) na rfl
  obtain ⟨l, ks, rfl, hq, hks, ekt, qq⟩ := q1
  cases r1
  obtain ⟨its, rv, pl, hz⟩ := I1.list hq
  have lk : ks.length = ts.length := by rw [← ekt, List.length_map]
  refine call_set_tups (P := X.prog) (w := X.w) ks (I1.ok.hd hX.calm) pl.isList (by simpa using refs_of_vals rv) (fun p hp => I1.isT (hks p hp)) (by omega) (by have := hX.room.un; omega) fun h' tk L es ep t R g hk => ?_
  have hL : L.length = us.length := by
    have e1 : (L.map (·.2)).Perm us := (List.perm_ext_iff_of_nodup R.nd nd).mpr fun z => by
      rw [same z]
      constructor
      · intro hz
        obtain ⟨p, hp, rfl⟩ := List.mem_map.mp hz
        have := g.sub p hp
        rw [← ekt]
        exact List.mem_map.mpr ⟨p, List.mem_of_mem_take this, rfl⟩
      · intro hz
        rw [← ekt] at hz
        obtain ⟨p, hp, rfl⟩ := List.mem_map.mp hz
        exact g.all p (by rw [List.take_length]; exact hp)
    have := e1.length_eq
    rwa [List.length_map] at this
  refine PyProof.Rows.args_nil ?_
  obtain ⟨o, ho, hex, hd⟩ := R.ob
  have I2 : Inv X pins σ H1 { s1 with heap := h', toks := tk } := I1.kept fun b o e => hk b o e
  have hsz := SetTR.size (s := { s1 with heap := h', toks := tk }) R
  have hfw := R.few
  have hft := SetTR.fits (s := { s1 with heap := h', toks := tk }) R
  refine call_len_set ho hex hd hft (by omega) ⟨.int us.length, H1, I2.tok _, ⟨_, by rw [hsz, hL]⟩, qq⟩
/-- for x, y, z in .. -/
theorem for3 {α : Type} {body : List Stmt} {x y z : Str} {px py pz tpos : Pos} {kk} {src : List PyData} (i j l : Nat) (xs : List α) (e1 e2 e3 : α → PyData) (inv : Nat → List C) (hi : EvI X A (.Tuple [.Name x px, .Name y py, .Name z pz] kk tpos) e src) (hsrc : src = xs.map fun z => .tuple [e1 z, e2 z, e3 z])
    (g1 : PG X (.Name x px) (gName i)) (g2 : PG X (.Name y py) (gName j)) (g3 : PG X (.Name z pz) (gName l)) (h0 : LeA A (inv 0)) (hi2 : ∀ n, (inv n)[i]?.isSome = true) (hj2 : ∀ n, (inv n)[j]?.isSome = true) (hl2 : ∀ n, (inv n)[l]?.isSome = true)
    (hb : ∀ (n : Nat) (hn : n < xs.length), Sm X ((((inv n).set i (.dat (e1 xs[n]))).set j (.dat (e2 xs[n]))).set l (.dat (e3 xs[n]))) body (.nx (inv (n + 1)))) (hs : ∀ x, foldedSetIterable e X.env x = pure x := by intro _; rfl) : S1 X A (.For (.Tuple [.Name x px, .Name y py, .Name z pz] kk tpos) e body [] pos) (.nx (inv xs.length)) := by
  subst hsrc
  refine s1_for (g := gTup X.K [i, j, l].length (gNames [i, j, l])) (U := uTup [i, j, l]) hX.pass hX.calm hi (pg_tup (es := [.Name x px, .Name y py, .Name z pz]) hX.calm (pgs_cons (e := .Name x px) (es := [.Name y py, .Name z pz]) g1 (pgs_cons (e := .Name y py) (es := [.Name z pz]) g2 (pgs_cons (e := .Name z pz) (es := []) g3 pgs_nil)))) tg_tup inv xs.length (by simp) h0 (fun n d hn hd => ?_) (.inl ⟨by simp, rfl⟩) hs
  rw [List.getElem?_map, List.getElem?_eq_getElem hn] at hd
  cases hd
  refine ⟨_, ⟨_, rfl, _, _, rfl, hi2 n, _, _, rfl, ?_, _, _, rfl, ?_, rfl, rfl⟩, hb n hn⟩
  · rw [List.getElem?_set]
    split
    · split
      · rfl
      · next h1 h2 =>
        exfalso
        have := lt_of_some (hi2 n)
        omega
    · exact hj2 n
  · have key : ∀ (B : List C) (u v : Nat) (c : C), B[v]?.isSome = true → (B.set u c)[v]?.isSome = true := fun B u v c h => by
      rw [List.getElem?_set]
      split
      · split
        · rfl
        · next h1 h2 =>
          exfalso
          have := lt_of_some h
          omega
      · exact h
    exact key _ _ _ _ (key _ _ _ _ (hl2 n))
end
end LR

set_option Elab.async false
set_option linter.all false
set_option maxRecDepth 100000
set_option maxHeartbeats 4000000
/-! The layer LS, part a: a name that holds the def's own list of own lists. -/
namespace LR
open PySem PySem.Spec PyProof.Rows L2
/-- new since the start, known to no one, and no own list of a name -/
def Far (A : List C) (H0 : Hp) (σ : L2.St) (I : Hp) (q : Addr) : Prop := H0 q = none ∧ I q = none ∧ ∀ i : Nat, isOwn A[i]? → σ[i]? ≠ some (some (.ref q))
/-- lists, the top one first -/
inductive PlAll (K : PySem.W.Frag) (I H : Hp) : List Addr → List (List PyData) → Prop
  | nil : PlAll K I H [] []
  | cons {q : Addr} {qs : List Addr} {vs : List V} {ps : List PyData} {pss : List (List PyData)} : H q = some (.lst vs) → DpAll K I vs ps → PlAll K I H qs pss → PlAll K I H (q :: qs) (ps :: pss)
structure Piles (K : PySem.W.Frag) (A : List C) (j : Nat) (pss : List (List PyData)) (H0 : Hp) (σ : L2.St) (I H : Hp) (p : Addr) (qs : List Addr) : Prop where
  lies : σ[j]? = some (some (.ref p))
  far : ∀ q ∈ p :: qs, Far A H0 σ I q
  top : H p = some (.lst (qs.map V.ref).reverse)
  nd : (p :: qs).Nodup
  all : PlAll K I H qs pss
def RelP (K : PySem.W.Frag) (I0 H0 : Hp) (A : List C) (j : Nat) (pss : List (List PyData)) (σ : L2.St) (I H : Hp) : Prop := A[j]? = some .un ∧ Rel K I0 H0 A σ I H ∧ ∃ p qs, Piles K A j pss H0 σ I H p qs
section
variable {K : PySem.W.Frag}
theorem plAll_mono {I H I' H' : Hp} (e : Same I I') : ∀ {qs : List Addr} {pss : List (List PyData)}, (∀ q ∈ qs, ∀ o, H q = some o → H' q = some o) → PlAll K I H qs pss → PlAll K I' H' qs pss
  | _, _, _, .nil => .nil
  | _, _, h, .cons a b c => .cons (h _ List.mem_cons_self _ a) (dpAll_mono e b) (plAll_mono e (fun q hq => h q (List.mem_cons_of_mem _ hq)) c)
theorem plAll_at {I H : Hp} : ∀ {qs : List Addr} {pss : List (List PyData)}, PlAll K I H qs pss → ∀ q ∈ qs, ∃ vs, H q = some (.lst vs)
  | _, _, .nil, q, hq => nomatch hq
  | _, _, .cons a b c, q, hq => by
    rcases List.mem_cons.mp hq with rfl | hq
    · exact ⟨_, a⟩
    · exact plAll_at c q hq
theorem plAll_len {I H : Hp} : ∀ {qs : List Addr} {pss : List (List PyData)}, PlAll K I H qs pss → qs.length = pss.length
  | _, _, .nil => rfl
  | _, _, .cons a b c => by rw [List.length_cons, List.length_cons, plAll_len c]
theorem plAll_last {I H : Hp} : ∀ {qs : List Addr} {pss : List (List PyData)} {ps : List PyData}, PlAll K I H qs (pss ++ [ps]) → ∃ q rs vs, qs = rs ++ [q] ∧ H q = some (.lst vs) ∧ DpAll K I vs ps
  | _, [], _, .cons a b .nil => ⟨_, [], _, rfl, a, b⟩
  | _, _ :: _, _, .cons a b c => by
    obtain ⟨q, rs, vs, rfl, h1, h2⟩ := plAll_last c
    exact ⟨q, _ :: rs, vs, rfl, h1, h2⟩
/-- the piles are seen from elsewhere as objects that stood -/
theorem pil_in {I0 H0 I H : Hp} {A : List C} {j : Nat} {pss : List (List PyData)} {σ : L2.St} {p : Addr} {qs : List Addr} (hj : A[j]? = some .un) (rl : Rel K I0 H0 A σ I H) (P : Piles K A j pss H0 σ I H p qs) : ∃ H0', Rel K I0 H0' (A.set j (.rf p)) σ I H ∧ (∀ A' σ' I' H', Same I I' → A'[j]? = some .un → Rel K I0 H0' (A'.set j (.rf p)) σ' I' H' → Rel K I0 H0 A' σ' I' H' ∧ Piles K A' j pss H0 σ' I' H' p qs) ∧
    (∀ I' H', Grow I0 H0' I' H' → Grow I0 H0 I' H') ∧ Same H0 H0' := by
  let M : Addr → Bool := fun b => decide (b ∈ p :: qs)
  let H0' : Hp := fun b => if M b = true then H b else H0 b
  have inM : ∀ b, M b = true → H0' b = H b := fun b h => if_pos h
  have outM : ∀ b, M b = false → H0' b = H0 b := fun b h => if_neg (by rw [h]; decide)
  have farM : ∀ b, M b = true → Far A H0 σ I b := fun b h => P.far b (of_decide_eq_true h)
  have isM : ∀ b, b ∈ p :: qs → M b = true := fun b h => decide_eq_true h
  have hM : ∀ b, M b = true → ∃ o, H b = some o := fun b h => by
    rcases List.mem_cons.mp (of_decide_eq_true h) with rfl | h
    · exact ⟨_, P.top⟩
    · obtain ⟨vs, e⟩ := plAll_at P.all b h
      exact ⟨_, e⟩
  have s0 : Same H0 H0' := fun b u h => by
    cases hb : M b with
    | true => rw [(farM b hb).1] at h; cases h
    | false => rw [outM b hb]; exact h
  have s1 : Same H0' H := fun b u h => by
    cases hb : M b with
    | true => rw [inM b hb] at h; exact h
    | false => rw [outM b hb] at h; exact rl.gr.hh b u h
  have ji := lt_of_some (show A[j]?.isSome = true by rw [hj]; rfl)
  have back : ∀ I' H', Grow I0 H0' I' H' → Grow I0 H0 I' H' := fun I' H' g => ⟨g.ii, s0.trans g.hh, g.ih, fun q o h n => g.nw q o (s0 q o h) n⟩
  refine ⟨H0', ⟨⟨rl.gr.ii, s1, rl.gr.ih, fun q o h n => ?_⟩, by rw [List.length_set]; exact rl.len, fun i c hc => ?_, fun i i' q ne o1 o2 hq => ?_⟩, fun A' σ' I' H' sm hj' r' => ?_, back, s0⟩
  · cases hb : M q with
    | true => exact (farM q hb).2.1
    | false => rw [outM q hb] at h; exact rl.gr.nw q o h n
  · by_cases hi : j = i
    · subst hi
      rw [List.getElem?_set_self ji] at hc
      cases hc
      exact P.lies
    · rw [List.getElem?_set_ne hi] at hc
      have z := rl.cell i c hc
      cases c with
      | un => trivial
      | dat d => exact z
      | rf a => exact z
      | tpo ds es => trivial
      | kn a d => exact z
      | own b =>
        obtain ⟨q, o, e, n0, n, ho, hb⟩ := z
        refine ⟨q, o, e, ?_, n, ho, hb⟩
        cases hb2 : M q with
        | true => exact absurd e ((farM q hb2).2.2 i (by rw [hc]; trivial))
        | false => rw [outM q hb2]; exact n0
  · have key : ∀ i : Nat, isOwn (A.set j (.rf p))[i]? → isOwn A[i]? := fun i o => by
      by_cases hi : j = i
      · subst hi; rw [List.getElem?_set_self ji] at o; exact o.elim
      · rw [List.getElem?_set_ne hi] at o; exact o
    exact rl.apart i i' q ne (key i o1) (key i' o2) hq
  · have ji' := lt_of_some (show A'[j]?.isSome = true by rw [hj']; rfl)
    have cellne : ∀ (i : Nat) (c : C), j ≠ i → A'[i]? = some c → CellAt K H0' I' H' σ'[i]? c := fun i c hi hc => r'.cell i c (by rw [List.getElem?_set_ne hi]; exact hc)
    have own_ne : ∀ i : Nat, isOwn A'[i]? → j ≠ i := fun i o z => by subst z; rw [hj'] at o; exact o
    have own_far : ∀ (i : Nat) (b : Addr), isOwn A'[i]? → M b = true → σ'[i]? ≠ some (some (.ref b)) := fun i b o hb e => by
      have hi := own_ne i o
      cases hc : A'[i]? with
      | none => rw [hc] at o; exact o
      | some c =>
        rw [hc] at o
        cases c with
        | own ob =>
          obtain ⟨q, o', e', n0, _⟩ := cellne i _ hi hc
          rw [e] at e'
          cases e'
          rw [inM b hb] at n0
          obtain ⟨u, hu⟩ := hM b hb
          rw [n0] at hu
          cases hu
        | un => exact o
        | dat d => exact o
        | rf a => exact o
        | tpo ds es => exact o
        | kn a d => exact o
    have kept : ∀ b, M b = true → ∀ o, H b = some o → H' b = some o := fun b hb o h => r'.gr.hh b o (by rw [inM b hb]; exact h)
    refine ⟨⟨back I' H' r'.gr, by have := r'.len; rw [List.length_set] at this; exact this, fun i c hc => ?_, fun i i' q ne o1 o2 hq => ?_⟩, ?_, fun q hq => ⟨(P.far q hq).1, ?_, fun i o => own_far i q o (isM q hq)⟩, kept p (isM p List.mem_cons_self) _ P.top, P.nd, plAll_mono sm (fun q hq o h => kept q (isM q (List.mem_cons_of_mem _ hq)) o h) P.all⟩
    · by_cases hi : j = i
      · subst hi
        rw [hj'] at hc
        cases hc
        trivial
      · have z := cellne i c hi hc
        cases c with
        | un => trivial
        | dat d => exact z
        | rf a => exact z
        | tpo ds es => trivial
        | kn a d => exact z
        | own b =>
          obtain ⟨q, o, e, n0, n, ho, hb⟩ := z
          refine ⟨q, o, e, ?_, n, ho, hb⟩
          cases hz : H0 q with
          | none => rfl
          | some u => rw [s0 q u hz] at n0; cases n0
    · have k1 := own_ne i o1
      have k2 := own_ne i' o2
      exact r'.apart i i' q ne (by rw [List.getElem?_set_ne k1]; exact o1) (by rw [List.getElem?_set_ne k2]; exact o2) hq
    · exact r'.cell j (.rf p) (by rw [List.getElem?_set_self ji'])
    · obtain ⟨u, hu⟩ := hM q (isM q hq)
      refine r'.gr.nw q u (by rw [inM q (isM q hq)]; exact hu) ?_
      cases hz : I0 q with
      | none => rfl
      | some u => have := rl.gr.ii q u hz; rw [(P.far q hq).2.1] at this; cases this
theorem relp_in {I0 H0 I H : Hp} {A : List C} {j : Nat} {pss : List (List PyData)} {σ : L2.St} (r : RelP K I0 H0 A j pss σ I H) : ∃ p H0', Rel K I0 H0' (A.set j (.rf p)) σ I H ∧ (∀ A' σ' I' H', Same I I' → A'[j]? = some .un → Rel K I0 H0' (A'.set j (.rf p)) σ' I' H' → RelP K I0 H0 A' j pss σ' I' H') ∧
    (∀ I' H', Grow I0 H0' I' H' → Grow I0 H0 I' H') ∧ Same H0 H0' := by
  obtain ⟨hj, rl, p, qs, P⟩ := r
  obtain ⟨H0', a, b, c, d⟩ := pil_in hj rl P
  exact ⟨p, H0', a, fun A' σ' I' H' s h r => ⟨h, (b A' σ' I' H' s h r).1, p, qs, (b A' σ' I' H' s h r).2⟩, c, d⟩
theorem Piles.grow {I H I' H' H0 : Hp} {A : List C} {j : Nat} {pss : List (List PyData)} {σ : L2.St} {p : Addr} {qs : List Addr} (P : Piles K A j pss H0 σ I H p qs) (g : Grow I H I' H') : Piles K A j pss H0 σ I' H' p qs where
  lies := P.lies
  far := fun q hq => by
    obtain ⟨a, b, c⟩ := P.far q hq
    refine ⟨a, ?_, c⟩
    rcases List.mem_cons.mp hq with rfl | hq
    · exact g.nw _ _ P.top b
    · obtain ⟨vs, e⟩ := plAll_at P.all q hq
      exact g.nw _ _ e b
  top := g.hh _ _ P.top
  nd := P.nd
  all := plAll_mono g.ii (fun q _ o h => g.hh q o h) P.all
theorem RelP.le {I0 H0 I H : Hp} {A A' : List C} {j : Nat} {pss : List (List PyData)} {σ : L2.St} (l : LeA A A') (hj : A'[j]? = some .un) (r : RelP K I0 H0 A j pss σ I H) : RelP K I0 H0 A' j pss σ I H := by
  obtain ⟨p, H0', r1, r2, _, _⟩ := relp_in r
  refine r2 A' σ I H (Same.refl _) hj (LeA.rel ⟨by rw [List.length_set, List.length_set]; exact l.1, fun i c c' h1 h2 => ?_⟩ r1)
  have ji := lt_of_some (show A[j]?.isSome = true by rw [r.1]; rfl)
  by_cases hi : j = i
  · subst hi
    rw [List.getElem?_set_self ji] at h1
    rw [List.getElem?_set_self (by rw [← l.1]; exact ji)] at h2
    cases h1; cases h2
    exact .inr rfl
  · rw [List.getElem?_set_ne hi] at h1 h2
    exact l.2 i c c' h1 h2
end
/-! ### judgements -/
inductive OutP where
  | nx (A : List C) (pss : List (List PyData))
  | out (o : Out)
def FinP (X : Cx) (I0 H0 I : Hp) (j : Nat) (D : Ends) : OutP → Prop
  | .nx A pss => ∀ σ' I' H', Same I I' → RelP X.K I0 H0 A j pss σ' I' H' → D.nx σ' H'
  | .out o => o.isNx = false ∧ Fin X I0 H0 I D o
def S1P (X : Cx) (A : List C) (j : Nat) (pss : List (List PyData)) (st : Stmt) (o : OutP) : Prop := ∀ I0 H0 σ I H, RelP X.K I0 H0 A j pss σ I H → ∀ D : Ends, FinP X I0 H0 I j D o → Ws X st D σ H
def SmP (X : Cx) (A : List C) (j : Nat) (pss : List (List PyData)) (st : List Stmt) (o : OutP) : Prop := ∀ I0 H0 σ I H, RelP X.K I0 H0 A j pss σ I H → ∀ D : Ends, FinP X I0 H0 I j D o → Wss X st D σ H
section
variable {X : Cx} {A A1 A2 : List C} {j : Nat} {pss pss1 pss2 : List (List PyData)} {pos : Pos}
theorem FinP.same {I0 H0 I I1 : Hp} {D : Ends} {o : OutP} (s : Same I I1) (f : FinP X I0 H0 I j D o) : FinP X I0 H0 I1 j D o := by
  cases o with
  | nx A pss => exact fun σ' I' H' s' r => f σ' I' H' (s.trans s') r
  | out o => exact ⟨f.1, f.2.same s⟩
theorem FinP.nxD {I0 H0 I : Hp} {D : Ends} {o : Out} {n : L2.St → Hp → Prop} (f : FinP X I0 H0 I j D (.out o)) : FinP X I0 H0 I j { D with nx := n } (.out o) := ⟨f.1, f.2.nxD fun A e => by have := f.1; rw [e] at this; cases this⟩
theorem smP_nil : SmP X A j pss [] (.nx A pss) := fun I0 H0 σ I H rl D f => wss_of pss_nil (f σ I H (Same.refl _) rl)
theorem smP_cons {st : Stmt} {r : List Stmt} {o : OutP} (h1 : S1P X A j pss st (.nx A1 pss1)) (h2 : SmP X A1 j pss1 r o) : SmP X A j pss (st :: r) o := fun I0 H0 σ I H rl D f =>
  wss_of (pss_cons ws_ps wss_pss) (h1 I0 H0 σ I H rl _ fun σ' I' H' s rl' => h2 I0 H0 σ' I' H' rl' D (f.same s))
theorem smP_end {st : Stmt} {r : List Stmt} {o : Out} (h1 : S1P X A j pss st (.out o)) : SmP X A j pss (st :: r) (.out o) := fun I0 H0 σ I H rl D f =>
  wss_of (pss_cons ws_ps wss_pss) (h1 I0 H0 σ I H rl _ f.nxD)
theorem smP_one {st : Stmt} {o : OutP} (h1 : S1P X A j pss st o) : SmP X A j pss [st] o := fun I0 H0 σ I H rl D f => wss_of (pss_one ws_ps) (h1 I0 H0 σ I H rl D f)
theorem smP_le {st : List Stmt} (h : SmP X A j pss st (.nx A1 pss1)) (l : LeA A1 A2) (hj : A2[j]? = some .un) : SmP X A j pss st (.nx A2 pss1) := fun I0 H0 σ I H rl D f => h I0 H0 σ I H rl D fun σ' I' H' s r => f σ' I' H' s (r.le l hj)
theorem s1P_le {st : Stmt} (h : S1P X A j pss st (.nx A1 pss1)) (l : LeA A1 A2) (hj : A2[j]? = some .un) : S1P X A j pss st (.nx A2 pss1) := fun I0 H0 σ I H rl D f => h I0 H0 σ I H rl D fun σ' I' H' s r => f σ' I' H' s (r.le l hj)
/-- a statement that leaves the piles -/
theorem s1P_lift {st : Stmt} (h : ∀ p, S1 X (A.set j (.rf p)) st (.nx (A1.set j (.rf p)))) (hj : A1[j]? = some .un) : S1P X A j pss st (.nx A1 pss) := fun I0 H0 σ I H rl D f => by
  obtain ⟨p, H0', r1, r2, _, _⟩ := relp_in rl
  exact h p I0 H0' σ I H r1 D fun σ' I' H' s r => f σ' I' H' s (r2 A1 σ' I' H' s hj r)
theorem s1P_liftX {st : Stmt} {x : Str} (h : ∀ p, S1 X (A.set j (.rf p)) st (.ex x (A1.set j (.rf p)))) (hj : A1[j]? = some .un) : S1P X A j pss st (.out (.ex x A1)) := fun I0 H0 σ I H rl D f => by
  obtain ⟨p, H0', r1, r2, _, _⟩ := relp_in rl
  obtain ⟨_, W, tk, f⟩ := f
  exact h p I0 H0' σ I H r1 D ⟨W, tk, fun σ' I' H' s r c hc => f σ' I' H' s (r2 A1 σ' I' H' s hj r).2.1 c hc⟩
theorem s1P_if {a : Expr} {v : Bool} {s1 s2 : List Stmt} {o : OutP} (hc : ∀ p, Et X (A.set j (.rf p)) a v) (h1 : v = true → SmP X A j pss s1 o) (h2 : v = false → SmP X A j pss s2 o) : S1P X A j pss (.If a s1 s2 pos) o := fun I0 H0 σ I H rl D f => by
  obtain ⟨p, H0', r1, r2, _, _⟩ := relp_in rl
  refine ws_of (ps_if wt_pe wss_pss wss_pss) (hc p I0 H0' σ I H r1 _ fun I1 H1 g => ?_)
  have rl1 := r2 A σ I1 H1 g.ii rl.1 (r1.grow g)
  cases v with
  | true => exact iteT (h1 rfl I0 H0 σ I1 H1 rl1 D (f.same g.ii))
  | false => exact iteF (h2 rfl I0 H0 σ I1 H1 rl1 D (f.same g.ii))
theorem s1P_while {c : Expr} {body : List Stmt} (hp : PassesOwn (model X.prog X.w) X.A X.env X.xe) (inv : Nat → List C) (pi : Nat → List (List PyData)) (n : Nat)
    (hb : ∀ i, i < n → (∀ p, Et X ((inv i).set j (.rf p)) c true) ∧ SmP X (inv i) j (pi i) body (.nx (inv (i + 1)) (pi (i + 1)))) (he : ∀ p, Et X ((inv n).set j (.rf p)) c false) : S1P X (inv 0) j (pi 0) (.While c body [] pos) (.nx (inv n) (pi n)) := fun I0 H0 σ I H rl D f => by
  refine ws_of (ps_while hp wt_pe wss_pss) ?_
  refine ⟨fun m σ' H' => ∃ i, m = n - i ∧ i ≤ n ∧ ∃ I', Same I I' ∧ RelP X.K I0 H0 (inv i) j (pi i) σ' I' H', ⟨n, 0, by simp, Nat.zero_le _, I, Same.refl _, rl⟩, ?_⟩
  rintro m σ' H' ⟨i, rfl, hin, I', s1, r'⟩
  obtain ⟨p, H0', r1, r2, _, _⟩ := relp_in r'
  by_cases hlt : i < n
  · obtain ⟨hc, hS⟩ := hb i hlt
    refine hc p I0 H0' σ' I' H' r1 _ fun I2 H2 g2 => ?_
    refine iteT ⟨fun σ2 H2 => ∃ I2, Same I I2 ∧ RelP X.K I0 H0 (inv (i + 1)) j (pi (i + 1)) σ2 I2 H2, fun σ2 H2 ⟨I2, s2, r2⟩ => ⟨n - (i + 1), by omega, i + 1, rfl, hlt, I2, s2, r2⟩, ?_⟩
    exact hS I0 H0 σ' I2 H2 (r2 _ σ' I2 H2 g2.ii r'.1 (r1.grow g2)) _ fun σ4 I4 H4 s4 r4 => ⟨I4, (s1.trans g2.ii).trans s4, r4⟩
  · have ein : i = n := by omega
    subst ein
    have f1 := f.same s1
    exact he p I0 H0' σ' I' H' r1 _ fun I2 H2 g2 => iteF (f1 σ' I2 H2 g2.ii (r2 _ σ' I2 H2 g2.ii r'.1 (r1.grow g2)))
theorem s1P_for {tg e : Expr} {body : List Stmt} {src : List PyData} {m : Nat} (hp : PassesOwn (model X.prog X.w) X.A X.env X.xe) (hc : X.calm = true) (hi : ∀ p, EvI X (A.set j (.rf p)) tg e src) (hg : PG X tg (gName m)) (hm : m ≠ j)
    (inv : Nat → List C) (pi : Nat → List (List PyData)) (h0 : A = inv 0) (hmi : ∀ i, (inv i)[m]?.isSome = true)
    (hb : ∀ (i : Nat) (d : PyData), src[i]? = some d → SmP X ((inv i).set m (.dat d)) j (pi i) body (.nx (inv (i + 1)) (pi (i + 1))))
    (hs : ∀ x, foldedSetIterable e X.env x = pure x := by intro _; rfl) : S1P X A j (pi 0) (.For tg e body [] pos) (.nx (inv src.length) (pi src.length)) := fun I0 H0 σ I H rl D f => by
  obtain ⟨p0, H0a, r1, r2, _, _⟩ := relp_in rl
  obtain ⟨wi, hpi, hwi⟩ := hi p0
  refine ws_of (ps_for hp hc hpi hg wss_pss hs) (hwi I0 H0a σ I H r1 _ fun J I1 H1 g1 hJ => ?_)
  have f1 := f.same g1.ii
  have rl1 : RelP X.K I0 H0 (inv 0) j (pi 0) σ I1 H1 := h0 ▸ r2 A σ I1 H1 g1.ii rl.1 (r1.grow g1)
  refine ⟨fun i k σ' H' => k = src.length - i ∧ i ≤ src.length ∧ ∃ I', Same I1 I' ∧ RelP X.K I0 H0 (inv i) j (pi i) σ' I' H', ⟨src.length, by simp, Nat.zero_le _, I1, Same.refl _, rl1⟩, ?_⟩
  rintro i k σ' H' ⟨rfl, hin, I', s1, r'⟩
  by_cases hlt : i < src.length
  · have hd : src[i]? = some (src[i]'(by omega)) := List.getElem?_eq_getElem _
    obtain ⟨go, yl⟩ := hJ.1 i _ hd I' H' s1 r'.2.1.ih
    refine .inr ⟨go, fun σ2 H2 => ∃ I2, Same I1 I2 ∧ RelP X.K I0 H0 (inv (i + 1)) j (pi (i + 1)) σ2 I2 H2, fun σ2 H2 ⟨I2, s2, r2⟩ => ⟨src.length - (i + 1), by omega, rfl, hlt, I2, s2, r2⟩, fun v H3 hy => ?_⟩
    obtain ⟨I3, g3, hv⟩ := yl v H3 hy
    obtain ⟨p, H0', q1, q2, _, _⟩ := relp_in r'
    have q3 := q1.grow g3
    have um : uName m ((inv i).set j (.rf p)) src[i] (((inv i).set m (.dat src[i])).set j (.rf p)) := ⟨by rw [List.getElem?_set_ne (Ne.symm hm)]; exact hmi i, List.set_comm _ _ hm⟩
    refine tg_name.run I0 H0' σ' I3 H3 _ _ _ v um q3 hv _ fun σ2 r3 => ?_
    have hj2 : ((inv i).set m (.dat src[i]))[j]? = some .un := by rw [List.getElem?_set_ne hm]; exact r'.1
    have q := hb i _ hd I0 H0 σ2 I3 H3 (q2 _ σ2 I3 H3 g3.ii hj2 r3) { D with nx := fun σ2 H2 => ∃ I2, Same I1 I2 ∧ RelP X.K I0 H0 (inv (i + 1)) j (pi (i + 1)) σ2 I2 H2, ct := fun σ2 H2 => ∃ I2, Same I1 I2 ∧ RelP X.K I0 H0 (inv (i + 1)) j (pi (i + 1)) σ2 I2 H2, bk := D.nx }
      fun σ4 I4 H4 s4 r4 => ⟨I4, (s1.trans g3.ii).trans s4, r4⟩
    exact q
  · have ein : i = src.length := by omega
    subst ein
    exact .inl ⟨hJ.2 I' H' s1 r'.2.1.ih, f1 σ' I' H' s1 r'⟩
end
end LR

set_option Elab.async false
set_option linter.all false
set_option maxRecDepth 100000
set_option maxHeartbeats 4000000
/-! The layer LS, part b: the statements on an own list of own lists. -/
namespace LR
open PySem PySem.Spec PyProof.Rows L2
section
variable {K : PySem.W.Frag}
theorem fresh_far {I0 H0 I H : Hp} {A : List C} {σ : L2.St} {t : Addr} (r : Rel K I0 H0 A σ I H) (ht : H t = none) : Far A H0 σ I t := by
  refine ⟨r.gr.hh.free ht, r.ih.free ht, fun i o e => ?_⟩
  cases hc : A[i]? with
  | none => rw [hc] at o; exact o
  | some c =>
    rw [hc] at o
    cases c with
    | own b =>
      obtain ⟨q, o', e', _, _, ho, _⟩ := r.cell i _ hc
      rw [e] at e'
      cases e'
      rw [ht] at ho
      cases ho
    | un => exact o
    | dat d => exact o
    | rf a => exact o
    | tpo ds es => exact o
    | kn a d => exact o
/-- the top list changes -/
theorem relp_top {I0 H0 I H : Hp} {A : List C} {j : Nat} {ps ps' : List PyData} {pss : List (List PyData)} {σ : L2.St} {p q : Addr} {qs : List Addr} {us : List V} (hj : A[j]? = some .un) (rl : Rel K I0 H0 A σ I H) (P : Piles K A j (ps :: pss) H0 σ I H p (q :: qs)) (hd : DpAll K I us ps') : RelP K I0 H0 A j (ps' :: pss) σ I (upd H q (.lst us)) := by
  obtain ⟨f1, f2, f3⟩ := P.far q (List.mem_cons_of_mem _ List.mem_cons_self)
  have nd := P.nd
  rw [List.nodup_cons, List.nodup_cons] at nd
  obtain ⟨n1, n2, n3⟩ := nd
  have hpq : p ≠ q := fun z => n1 (by rw [z]; exact List.mem_cons_self)
  refine ⟨hj, rel_out rl f1 f2 f3, p, q :: qs, P.lies, P.far, by rw [upd_ne hpq]; exact P.top, P.nd, ?_⟩
  cases P.all with
  | cons a b c => exact .cons upd_same hd (plAll_mono (Same.refl _) (fun z hz o h => by rw [upd_ne (fun e => n2 (by rw [← e]; exact hz))]; exact h) c)
end
section
variable {P : Program} {w : World} {K : PySem.W.Frag} {mg : Str → Option Value} {base : Heap} {N : List Str} {sc : Scope} {k : Nat}
variable {X : Cx} {e a b : Expr} {es : List Expr} {A : List C} {pos p p2 p3 p4 q0 q1 q2 q3 p5 p6 p7 : Pos} {x y z : Str} {j : Nat} {ps ps2 : List PyData} {pss : List (List PyData)}
variable (hX : XF P w K mg base N sc k X)
include hX
/-- piles.append([]) -/
theorem pilPush (hN : N[j]? = some x) (hv : Vis sc x) (hz : pss.length < sizeLine) (hd : (x == ("__debug__" : Str)) = false) (hcd : (x == ("__classdict__" : Str)) = false)
    (hs : starEach ((.List [] q0) :: []) X.env = (false, eval (.List [] q0) X.env) :: starEach [] X.env := by rfl) (hpl : ((backTo p3 (starEach ((.List [] q0) :: []) X.env)).all (fun x => !x.1) && (backToKw p3 (keywordEach [] X.env)).all (fun x => x.1.isSome) && decide (([.List [] q0] : List Expr).length + ([] : List Keyword).length + (if ([] : List Keyword).isEmpty then 0 else 1) < 30)) = true := by rfl) (hline : (p2.endLine == p3.line) = true := by rfl)
    (hsw : swapsWith (.Call (.Attribute (.Name x p) "append" p2) [.List [] q0] [] p3) none p4.line X.env = pure false := by rfl) :
    S1P X A j pss (.Expr (.Call (.Attribute (.Name x p) "append" p2) [.List [] q0] [] p3) p4) (.nx A ([] :: pss)) := fun I0 H0 σ I H rl D f => by
  obtain ⟨hj, r, l, qs, Pl⟩ := rl
  refine ws_of (ps_expr (pe_bm PySem.F.plainAttrs_list PySem.F.slot_list_append PySem.F.type_list_append mt_append (pe_var (by rw [hX.eN]; exact hN) (hX.vis hv) hd hcd) (pa_cons (pe_lst pa_nil) pa_nil hs) (hfew := hpl) (hline := hline) (hs := hs) (hplain := rfl)) hsw) ?_
  refine ⟨.ref l, Pl.lies, .inl ⟨rfl, _, .inl (.inl Pl.top)⟩, ?_⟩
  refine ⟨by rw [sizeLine_eq]; simp, fun t ht => ?_⟩
  have hlt : l ≠ t := fun e => by subst e; rw [Pl.top] at ht; cases ht
  have hqt : ∀ q ∈ qs, q ≠ t := fun q hq e => by
    subst e
    obtain ⟨vs, h⟩ := plAll_at Pl.all q hq
    rw [h] at ht
    cases ht
  refine ⟨l, _, .ref t, rfl, rfl, by rw [upd_ne hlt]; exact Pl.top, by rw [List.length_reverse, List.length_map, plAll_len Pl.all]; exact hz, ?_⟩
  have far := fresh_far r ht
  have r1 := rel_out (o := .lst []) r far.1 far.2.1 far.2.2
  have fl := Pl.far l List.mem_cons_self
  have nd := List.nodup_cons.mp Pl.nd
  refine f σ I _ (Same.refl _) ⟨hj, rel_out r1 fl.1 fl.2.1 fl.2.2, l, t :: qs, Pl.lies, fun q hq => ?_, ?_, ?_, ?_⟩
  · rcases List.mem_cons.mp hq with rfl | hq
    · exact fl
    · rcases List.mem_cons.mp hq with rfl | hq
      · exact far
      · exact Pl.far q (List.mem_cons_of_mem _ hq)
  · rw [upd_same]; simp
  · refine List.nodup_cons.mpr ⟨fun h => ?_, List.nodup_cons.mpr ⟨fun h => hqt t h rfl, nd.2⟩⟩
    rcases List.mem_cons.mp h with h | h
    · exact hlt h
    · exact nd.1 h
  · refine .cons (by rw [upd_ne (Ne.symm hlt), upd_same]) .nil (plAll_mono (Same.refl _) (fun q hq o h => ?_) Pl.all)
    rw [upd_ne (fun e => nd.1 (by rw [← e]; exact hq)), upd_ne (hqt q hq)]
    exact h
/-- piles[-1].append(e) -/
theorem pilApp {d : PyData} {kk} (hN : N[j]? = some x) (hv : Vis sc x) (he : ∀ a, Ev X (A.set j (.rf a)) e (.dat d)) (hz : ps.length < sizeLine) (hd : (x == ("__debug__" : Str)) = false) (hcd : (x == ("__classdict__" : Str)) = false)
    (hbase : attributeBase (.Subscript (.Name x p) (.UnaryOp .USub (.Constant (.int 1) kk q1) q2) q3) "append" X.env (eval (.Subscript (.Name x p) (.UnaryOp .USub (.Constant (.int 1) kk q1) q2) q3) X.env) = eval (.Subscript (.Name x p) (.UnaryOp .USub (.Constant (.int 1) kk q1) q2) q3) X.env := by rfl)
    (hs : starEach (e :: []) X.env = (false, eval e X.env) :: starEach [] X.env := by rfl) (hpl : ((backTo p3 (starEach (e :: []) X.env)).all (fun x => !x.1) && (backToKw p3 (keywordEach [] X.env)).all (fun x => x.1.isSome) && decide (([e] : List Expr).length + ([] : List Keyword).length + (if ([] : List Keyword).isEmpty then 0 else 1) < 30)) = true := by rfl) (hline : (p2.endLine == p3.line) = true := by rfl)
    (hsw : swapsWith (.Call (.Attribute (.Subscript (.Name x p) (.UnaryOp .USub (.Constant (.int 1) kk q1) q2) q3) "append" p2) [e] [] p3) none p4.line X.env = pure false := by rfl) :
    S1P X A j (ps :: pss) (.Expr (.Call (.Attribute (.Subscript (.Name x p) (.UnaryOp .USub (.Constant (.int 1) kk q1) q2) q3) "append" p2) [e] [] p3) p4) (.nx A ((ps ++ [d]) :: pss)) := fun I0 H0 σ I H rl D f => by
  obtain ⟨hj, r, l, qs, Pl⟩ := rl
  obtain ⟨H0', r1, r2, _, _⟩ := pil_in hj r Pl
  refine ws_of (ps_expr (pe_bm PySem.F.plainAttrs_list PySem.F.slot_list_append PySem.F.type_list_append mt_append (pe_ix ix_list (pe_var (by rw [hX.eN]; exact hN) (hX.vis hv) hd hcd) (wx_pe (e := .UnaryOp .USub (.Constant (.int 1) kk q1) q2)) (fun _ _ => rfl)) (pa_cons wx_pe pa_nil hs) (hbase := hbase) (hfew := hpl) (hline := hline) (hs := hs) (hplain := rfl)) hsw) ?_
  refine ⟨.ref l, Pl.lies, ?_⟩
  refine ev_neg ev_int I0 H0' σ I H r1 _ fun v I1 H1 g1 hv1 => ?_
  have ha := Pl.all
  cases qs with
  | nil => cases ha
  | cons q qs =>
  have P1 := Pl.grow g1
  have hv2 : v = .int (-1) := dp_int hv1
  refine ⟨l, _, -1, .ref q, rfl, hv2, .inl (.inl P1.top), ?_, ?_⟩
  · rw [List.map_cons, List.reverse_cons]
    exact atI_last _ _
  · have hq1 : ∃ vs, H1 q = some (.lst vs) ∧ DpAll X.K I1 vs ps := by
      cases P1.all with
      | cons a b c => exact ⟨_, a, b⟩
    obtain ⟨vs, e1, e2⟩ := hq1
    refine ⟨.inl ⟨rfl, _, .inl (.inl e1)⟩, ?_⟩
    refine he l I0 H0' σ I1 H1 (r1.grow g1) _ fun u I2 H2 g2 hu => ?_
    refine ⟨q, vs, u, rfl, rfl, g2.hh _ _ e1, by rw [dpAll_len e2]; exact hz, ?_⟩
    have g := g1.trans g2
    obtain ⟨r3, P3⟩ := r2 A σ I2 H2 g.ii hj (r1.grow g)
    exact f σ I2 _ g.ii (relp_top hj r3 P3 (dpAll_append (dpAll_mono g2.ii e2) (dpAll_one hu)))
/-- y = tuple(piles.pop()) -/
theorem pilPopT (hT : XT X) (i : Nat) {pos' : Pos} (hgt : GlS sc "tuple") (mt : mg "tuple" = none) (hNy : N[i]? = some y) (hy : L2.Loc sc y) (hij : i ≠ j) (hi : A[i]?.isSome = true) (hN : N[j]? = some x) (hv : Vis sc x) (hd : (x == ("__debug__" : Str)) = false) (hcd : (x == ("__classdict__" : Str)) = false)
    (hb : bootBuiltins "tuple" = some (.type "tuple") := by decide +kernel) (hs : starEach ((.Call (.Attribute (.Name x p) "pop" p2) [] [] p3) :: []) X.env = (false, eval (.Call (.Attribute (.Name x p) "pop" p2) [] [] p3) X.env) :: starEach [] X.env := by rfl) (hline : (p2.endLine == p3.line) = true := by rfl)
    (hsw : swapsWith (.Call (.Name "tuple" p5) [.Call (.Attribute (.Name x p) "pop" p2) [] [] p3] [] p6) (some (.Name y pos')) pos.line X.env = pure false := by rfl) :
    S1P X A j (ps :: pss) (.Assign [.Name y pos'] (.Call (.Name "tuple" p5) [.Call (.Attribute (.Name x p) "pop" p2) [] [] p3] [] p6) pos) (.nx (A.set i (.dat (.tuple ps))) pss) := fun I0 H0 σ I H rl D f => by
  obtain ⟨hj, r, l, qs, Pl⟩ := rl
  refine ws_of (ps_set hX.ndX (by rw [hX.eN]; exact hNy) (hX.loc hy) (pe_callTy call_tuple_of (hX.gl hgt) (by rw [hX.eM]; exact mt) hb (pa_cons (pe_bm0 PySem.F.plainAttrs_list PySem.F.slot_list_pop PySem.F.type_list_pop mt_pop (pe_var (by rw [hX.eN]; exact hN) (hX.vis hv) hd hcd) (hline := hline)) pa_nil hs) (by decide) (by decide) hs rfl) hsw (.inl (hT.fn _))) ?_
  refine ⟨.ref l, Pl.lies, .inl ⟨rfl, _, .inl (.inl Pl.top)⟩, ?_⟩
  cases qs with
  | nil => have := Pl.all; cases this
  | cons q qs =>
  have hq1 : ∃ vs, H q = some (.lst vs) ∧ DpAll X.K I vs ps := by
    cases Pl.all with
    | cons a b c => exact ⟨_, a, b⟩
  obtain ⟨vs, e1, e2⟩ := hq1
  have nd := Pl.nd
  rw [List.nodup_cons, List.nodup_cons] at nd
  obtain ⟨n1, n2, n3⟩ := nd
  have hql : q ≠ l := fun e => n1 (by rw [e]; exact List.mem_cons_self)
  have fl := Pl.far l List.mem_cons_self
  refine ⟨l, _, .ref q, rfl, rfl, Pl.top, ?_, ?_⟩
  · rw [List.map_cons, List.reverse_cons, List.length_append, List.length_singleton, Nat.add_sub_cancel, List.getElem?_concat_length]
  · rw [List.map_cons, List.reverse_cons, List.dropLast_concat]
    refine ⟨q, vs, rfl, .inl ⟨.inl (.inl (by rw [upd_ne hql]; exact e1)), fun t ht => ?_⟩⟩
    have r1 := rel_out (o := .lst (qs.map V.ref).reverse) r fl.1 fl.2.1 fl.2.2
    have P1 : Piles X.K A j pss H0 σ I (upd H l (.lst (qs.map V.ref).reverse)) l qs := by
      refine ⟨Pl.lies, fun z hz => ?_, upd_same, ?_, ?_⟩
      · rcases List.mem_cons.mp hz with rfl | hz
        · exact fl
        · exact Pl.far z (List.mem_cons_of_mem _ (List.mem_cons_of_mem _ hz))
      · exact List.nodup_cons.mpr ⟨fun h => n1 (List.mem_cons_of_mem _ h), n3⟩
      · cases Pl.all with
        | cons a b c => exact plAll_mono (Same.refl _) (fun z hz o h => by rw [upd_ne (fun e => n1 (by rw [← e]; exact List.mem_cons_of_mem _ hz))]; exact h) c
    have g2 := Grow.new (o := .tup vs) r1.ih ht
    have P2 := P1.grow g2
    have r2 := rel_set (r1.grow g2) (Dp.tup upd_same (dpAll_mono g2.ii e2)) (lt_of_some hi)
    refine f _ _ _ g2.ii ⟨by rw [List.getElem?_set_ne hij]; exact hj, r2, l, qs, by rw [List.getElem?_set_ne hij]; exact P2.lies, fun z hz => ?_, P2.top, P2.nd, P2.all⟩
    obtain ⟨a1, a2, a3⟩ := P2.far z hz
    refine ⟨a1, a2, fun m o em => ?_⟩
    by_cases hm : i = m
    · subst hm
      rw [List.getElem?_set_self (lt_of_some hi)] at o
      exact o
    · rw [List.getElem?_set_ne hm] at o em
      exact a3 m o em
/-- piles[-1].append((word, counts.pop(), z)) -/
theorem pilAppT (m i : Nat) {pos2 : Pos} {word : Str} {cs : List PyData} {c d : PyData} {kk k2 k3} (hN : N[j]? = some x) (hv : Vis sc x) (hz : ps.length < sizeLine) (hNy : N[m]? = some y) (hvy : Vis sc y) (hA : A[m]? = some (.own (.lst (cs ++ [c])))) (hNz : N[i]? = some z) (hvz : Vis sc z) (hAz : A[i]? = some (.dat d)) (hd : (x == ("__debug__" : Str)) = false) (hcd : (x == ("__classdict__" : Str)) = false)
    (hd2 : (y == ("__debug__" : Str)) = false) (hcd2 : (y == ("__classdict__" : Str)) = false) (hd3 : (z == ("__debug__" : Str)) = false) (hcd3 : (z == ("__classdict__" : Str)) = false)
    (hbase : attributeBase (.Subscript (.Name x p) (.UnaryOp .USub (.Constant (.int 1) kk q1) q2) q3) "append" X.env (eval (.Subscript (.Name x p) (.UnaryOp .USub (.Constant (.int 1) kk q1) q2) q3) X.env) = eval (.Subscript (.Name x p) (.UnaryOp .USub (.Constant (.int 1) kk q1) q2) q3) X.env := by rfl)
    (hline2 : (p6.endLine == p7.line) = true := by rfl)
    (hs : starEach ((.Tuple [.Constant (.str word) k2 q0, .Call (.Attribute (.Name y p5) "pop" p6) [] [] p7, .Name z pos2] k3 p4) :: []) X.env = (false, eval (.Tuple [.Constant (.str word) k2 q0, .Call (.Attribute (.Name y p5) "pop" p6) [] [] p7, .Name z pos2] k3 p4) X.env) :: starEach [] X.env := by rfl) (hs1 : starEach [.Constant (.str word) k2 q0, .Call (.Attribute (.Name y p5) "pop" p6) [] [] p7, .Name z pos2] X.env = (false, eval (.Constant (.str word) k2 q0) X.env) :: starEach [.Call (.Attribute (.Name y p5) "pop" p6) [] [] p7, .Name z pos2] X.env := by rfl)
    (hs2 : starEach [.Call (.Attribute (.Name y p5) "pop" p6) [] [] p7, .Name z pos2] X.env = (false, eval (.Call (.Attribute (.Name y p5) "pop" p6) [] [] p7) X.env) :: starEach [.Name z pos2] X.env := by rfl) (hs3 : starEach [.Name z pos2] X.env = (false, eval (.Name z pos2) X.env) :: starEach [] X.env := by rfl)
    (hpl : ((backTo p3 (starEach ((.Tuple [.Constant (.str word) k2 q0, .Call (.Attribute (.Name y p5) "pop" p6) [] [] p7, .Name z pos2] k3 p4) :: []) X.env)).all (fun x => !x.1) && (backToKw p3 (keywordEach [] X.env)).all (fun x => x.1.isSome) && decide (([(.Tuple [.Constant (.str word) k2 q0, .Call (.Attribute (.Name y p5) "pop" p6) [] [] p7, .Name z pos2] k3 p4)] : List Expr).length + ([] : List Keyword).length + (if ([] : List Keyword).isEmpty then 0 else 1) < 30)) = true := by rfl) (hline : (p2.endLine == p3.line) = true := by rfl)
    (hsw : swapsWith (.Call (.Attribute (.Subscript (.Name x p) (.UnaryOp .USub (.Constant (.int 1) kk q1) q2) q3) "append" p2) [(.Tuple [.Constant (.str word) k2 q0, .Call (.Attribute (.Name y p5) "pop" p6) [] [] p7, .Name z pos2] k3 p4)] [] p3) none pos.line X.env = pure false := by rfl) :
    S1P X A j (ps :: pss) (.Expr (.Call (.Attribute (.Subscript (.Name x p) (.UnaryOp .USub (.Constant (.int 1) kk q1) q2) q3) "append" p2) [(.Tuple [.Constant (.str word) k2 q0, .Call (.Attribute (.Name y p5) "pop" p6) [] [] p7, .Name z pos2] k3 p4)] [] p3) pos) (.nx (A.set m (.own (.lst cs))) ((ps ++ [.tuple [.str word, c, d]]) :: pss)) := fun I0 H0 σ I H rl D f => by
  obtain ⟨hj, r, l, qs, Pl⟩ := rl
  obtain ⟨H0', r1, r2, _, _⟩ := pil_in hj r Pl
  refine ws_of (ps_expr (pe_bm PySem.F.plainAttrs_list PySem.F.slot_list_append PySem.F.type_list_append mt_append (pe_ix ix_list (pe_var (by rw [hX.eN]; exact hN) (hX.vis hv) hd hcd) (wx_pe (e := .UnaryOp .USub (.Constant (.int 1) kk q1) q2)) (fun _ _ => rfl))
    (pa_cons (pe_tup (pa_cons pe_str (pa_cons (pe_bm0 PySem.F.plainAttrs_list PySem.F.slot_list_pop PySem.F.type_list_pop mt_pop (pe_var (by rw [hX.eN]; exact hNy) (hX.vis hvy) hd2 hcd2) (hline := hline2)) (pa_cons (pe_var (by rw [hX.eN]; exact hNz) (hX.vis hvz) hd3 hcd3) pa_nil hs3) hs2) hs1)) pa_nil hs) (hbase := hbase) (hfew := hpl) (hline := hline) (hs := hs) (hplain := rfl)) hsw) ?_
  refine ⟨.ref l, Pl.lies, ?_⟩
  refine ev_neg ev_int I0 H0' σ I H r1 _ fun v I1 H1 g1 hv1 => ?_
  have ha := Pl.all
  cases qs with
  | nil => cases ha
  | cons q qs =>
  have P1 := Pl.grow g1
  have r3 := r.grow g1
  have hv2 : v = .int (-1) := dp_int hv1
  refine ⟨l, _, -1, .ref q, rfl, hv2, .inl (.inl P1.top), ?_, ?_⟩
  · rw [List.map_cons, List.reverse_cons]
    exact atI_last _ _
  have hq1 : ∃ vs, H1 q = some (.lst vs) ∧ DpAll X.K I1 vs ps := by
    cases P1.all with
    | cons a b c => exact ⟨_, a, b⟩
  obtain ⟨vs, e1, e2⟩ := hq1
  refine ⟨.inl ⟨rfl, _, .inl (.inl e1)⟩, ?_⟩
  obtain ⟨rr, o, er, n0, nn, ho, hb⟩ := r3.cell m _ hA
  obtain ⟨us, rfl, hu⟩ := obAt_lst hb
  obtain ⟨dz, edz, hdz⟩ := r3.cell i _ hAz
  have hus : ∃ us1 u, us = us1 ++ [u] ∧ DpAll X.K I1 us1 cs ∧ Dp X.K I1 u c := by
    have hl := dpAll_len hu
    rw [List.length_append, List.length_singleton] at hl
    have t1 := dpAll_take cs.length hu
    rw [List.take_left] at t1
    obtain ⟨u, hu1, hu2⟩ := dpAll_get hu (i := cs.length) (d := c) (by rw [List.getElem?_concat_length])
    refine ⟨us.take cs.length, u, ?_, t1, hu2⟩
    have := List.take_append_drop cs.length us
    rw [List.drop_eq_getElem_cons (show cs.length < us.length by omega), List.drop_eq_nil_of_le (by omega)] at this
    rw [List.getElem?_eq_getElem (show cs.length < us.length by omega)] at hu1
    rw [← Option.some.inj hu1]
    exact this.symm
  obtain ⟨us1, u, rfl, hu1, hu2⟩ := hus
  have fq := P1.far q (List.mem_cons_of_mem _ List.mem_cons_self)
  have hown : isOwn A[m]? := by rw [hA]; trivial
  have hmem : ∀ t ∈ l :: q :: qs, t ≠ rr := fun t ht e => by subst e; exact (P1.far t ht).2.2 m hown er
  refine ⟨.ref rr, er, .inl ⟨rfl, _, .inl (.inl ho)⟩, rr, us1 ++ [u], u, rfl, rfl, ho, ?_, ?_⟩
  · rw [List.length_append, List.length_singleton, Nat.add_sub_cancel, List.getElem?_concat_length]
  rw [List.dropLast_concat]
  refine ⟨dz, edz, by rw [sizeLine_eq]; simp, fun t ht => ?_⟩
  have r4 := rel_mut (o := .lst us1) (b' := .lst cs) r3 hA er n0 nn hu1
  have P4 : Piles X.K (A.set m (.own (.lst cs))) j (ps :: pss) H0 σ I1 (upd H1 rr (.lst us1)) l (q :: qs) := by
    refine ⟨P1.lies, fun t ht => ?_, by rw [upd_ne (hmem l List.mem_cons_self)]; exact P1.top, P1.nd, plAll_mono (Same.refl _) (fun t ht o h => by rw [upd_ne (hmem t (List.mem_cons_of_mem _ ht))]; exact h) P1.all⟩
    obtain ⟨a1, a2, a3⟩ := P1.far t ht
    refine ⟨a1, a2, fun n o en => ?_⟩
    by_cases hmn : m = n
    · subst hmn
      exact a3 m hown en
    · rw [List.getElem?_set_ne hmn] at o
      exact a3 n o en
  have hjm : m ≠ j := fun e => by subst e; rw [hj] at hA; cases hA
  have hj4 : (A.set m (.own (.lst cs)))[j]? = some .un := by rw [List.getElem?_set_ne hjm]; exact hj
  have g5 := Grow.new (o := .tup [.str word, u, dz]) r4.ih ht
  have P5 := P4.grow g5
  have htq : q ≠ t := fun e => by
    subst e
    rw [upd_ne (hmem q (List.mem_cons_of_mem _ List.mem_cons_self)), e1] at ht
    cases ht
  refine ⟨q, vs, .ref t, rfl, rfl, by rw [upd_ne htq, upd_ne (hmem q (List.mem_cons_of_mem _ List.mem_cons_self))]; exact e1, by rw [dpAll_len e2]; exact hz, ?_⟩
  refine f σ _ _ (g1.ii.trans g5.ii) (relp_top hj4 (r4.grow g5) P5 (dpAll_append (dpAll_mono g5.ii e2) (dpAll_one (.tup upd_same (.cons (.str word) (.cons (dp_mono g5.ii hu2) (.cons (dp_mono g5.ii hdz) .nil)))))))
/-- return tuple(piles[0]) -/
theorem pilRet {kk} (hgt : GlS sc "tuple") (mt : mg "tuple" = none) (hN : N[j]? = some x) (hv : Vis sc x) (hd : (x == ("__debug__" : Str)) = false) (hcd : (x == ("__classdict__" : Str)) = false)
    (hb : bootBuiltins "tuple" = some (.type "tuple") := by decide +kernel) (hs : starEach ((.Subscript (.Name x p) (.Constant (.int 0) kk q1) q2) :: []) X.env = (false, eval (.Subscript (.Name x p) (.Constant (.int 0) kk q1) q2) X.env) :: starEach [] X.env := by rfl) :
    S1P X A j (pss ++ [ps]) (.Return (some (.Call (.Name "tuple" p5) [.Subscript (.Name x p) (.Constant (.int 0) kk q1) q2] [] p6)) pos) (.out (.rt (.dat (.tuple ps)))) := fun I0 H0 σ I H rl D f => by
  obtain ⟨hj, r, l, qs, Pl⟩ := rl
  obtain ⟨q, rs, vs, rfl, e1, e2⟩ := plAll_last Pl.all
  refine ws_of (ps_ret (pe_callTy call_tuple_of (hX.gl hgt) (by rw [hX.eM]; exact mt) hb (pa_cons (pe_ix ix_list (pe_var (by rw [hX.eN]; exact hN) (hX.vis hv) hd hcd) pe_int (fun _ _ => rfl)) pa_nil hs) (by decide) (by decide) hs rfl)) ?_
  refine ⟨.ref l, Pl.lies, l, _, 0, .ref q, rfl, rfl, .inl (.inl Pl.top), ?_, ?_⟩
  · rw [List.map_append, List.reverse_append]
    show atI _ ((0 : Nat) : Int) = _
    exact atI_nat rfl
  refine ⟨q, vs, rfl, .inl ⟨.inl (.inl e1), fun t ht => ?_⟩⟩
  have g2 := Grow.new (o := .tup vs) r.ih ht
  exact f.2 _ _ _ g2.ii (r.gr.trans g2) (Dp.tup upd_same (dpAll_mono g2.ii e2))
/-- piles = [[]] -/
theorem pilNew (hT : XT X) {rest : List Stmt} {o : Out} {pos' : Pos} (hN : N[j]? = some x) (hx : L2.Loc sc x) (hj : A[j]?.isSome = true) (h : SmP X (A.set j .un) j [[]] rest (.out o)) (ho : o.isNx = false)
    (hs : starEach [(.List [] q0 : Expr)] X.env = (false, eval (.List [] q0) X.env) :: starEach [] X.env := by rfl)
    (hsw : swapsWith (.List [.List [] q0] p) (some (.Name x pos')) pos.line X.env = pure false := by rfl) : Sm X A (.Assign [.Name x pos'] (.List [.List [] q0] p) pos :: rest) o := fun I0 H0 σ I H r D f => by
  refine wss_of (pss_cons (ps_set hX.ndX (by rw [hX.eN]; exact hN) (hX.loc hx) (pe_lst (pa_cons (pe_lst pa_nil) pa_nil hs)) hsw (.inl (hT.fn _))) wss_pss) ?_
  refine ⟨by rw [sizeLine_eq]; simp, fun t1 h1 => ⟨by rw [sizeLine_eq]; simp, fun t2 h2 => ?_⟩⟩
  have f1 := fresh_far r h1
  have g1 := Grow.newH (o := .lst []) r.ih h1
  have r1 := r.grow g1
  have f2 := fresh_far r1 h2
  have g2 := Grow.newH (o := .lst [.ref t1]) r1.ih h2
  have r2 := rel_put (c := .un) r1 g2 (v := .ref t2) trivial (lt_of_some hj)
  have ne : t1 ≠ t2 := fun e => by subst e; rw [upd_same] at h2; cases h2
  have far : ∀ t, Far A H0 σ I t → Far (A.set j .un) H0 (σ.set j (some (.ref t2))) I t := fun t ⟨a1, a2, a3⟩ => ⟨a1, a2, fun m o em => by
    by_cases hm : j = m
    · subst hm
      rw [List.getElem?_set_self (lt_of_some hj)] at o
      exact o
    · rw [List.getElem?_set_ne hm] at o em
      exact a3 m o em⟩
  refine h I0 H0 _ _ _ ⟨by rw [List.getElem?_set_self (lt_of_some hj)], r2, t2, [t1], by rw [List.getElem?_set_self (by rw [r.len]; exact lt_of_some hj)], fun t ht => ?_, upd_same, by simp [ne.symm], .cons (by rw [upd_ne ne, upd_same]) .nil .nil⟩ D ⟨ho, f⟩
  simp only [List.mem_cons, List.not_mem_nil, or_false] at ht
  rcases ht with rfl | rfl
  · exact far _ f2
  · exact far _ f1
end
end LR

set_option Elab.async false
set_option linter.all false
set_option maxRecDepth 100000
set_option maxHeartbeats 4000000
/-! The layer LS, part c: reversed(xs) of a list. -/
namespace LR
open PySem PySem.Spec PyProof.Rows L2
section
variable {P : Program} {w : World} {K : PySem.W.Frag} {mg : Str → Option Value} {base : Heap} {N : List Str} {sc : Scope} {k : Nat}
variable {X : Cx} {e a b : Expr} {es : List Expr} {A : List C} {pos p p2 : Pos} {x y : Str}
theorem walks_revL {K : PySem.W.Frag} {I1 : Hp} {q : Addr} {vs : List V} {src : List PyData} (hs : SqL K I1 q vs) (ha : DpAll K I1 vs src) : Walks K (Itv K q vs.length) I1 src.reverse := by
  have hl := dpAll_len ha
  refine ⟨fun i d e I2 H2 s1 s2 => ?_, fun I2 H2 s1 s2 => by show vs.length ≤ _; rw [List.length_reverse, hl]; exact Nat.le_refl _⟩
  have hi : i < src.length := by
    by_cases h : i < src.length
    · exact h
    · rw [List.getElem?_eq_none (by rw [List.length_reverse]; omega)] at e; cases e
  rw [List.getElem?_reverse hi] at e
  obtain ⟨v, e1, e2⟩ := dpAll_get ha e
  rw [← hl] at e1
  refine ⟨⟨by omega, vs, v, same_l (s1.trans s2) hs, e1⟩, fun z H3 ⟨e3, f⟩ => ?_⟩
  subst e3
  have e4 : z = v := Option.some.inj ((f _ (same_l (s1.trans s2) hs)).symm.trans e1)
  subst e4
  exact ⟨I2, .refl s2, dp_mono s1 e2⟩
variable (hX : XF P w K mg base N sc k X)
include hX
theorem revLF {tg : Expr} {α : Type} {enc : α → PyData} {xs : List α} (hg : GlS sc "reversed") (hm : mg "reversed" = none) (h : Ev X A e (.dat (.list (xs.map enc)))) (hs : starEach (e :: []) X.env = (false, eval e X.env) :: starEach [] X.env := by rfl) : EvI X A tg (.Call (.Name "reversed" p) [e] [] pos) (xs.reverse.map enc) := by
  rw [List.map_reverse]
  refine ⟨_, RT.pi_revA (hX.gl hg) (by rw [hX.eM]; exact hm) wx_pe (hs := hs), fun I0 H0 σ I H rl R q => h I0 H0 σ I H rl _ fun v I1 H1 g hv => ?_⟩
  obtain ⟨a, vs, rfl, hs, ha⟩ := dp_lst (show Dp X.K I1 v (.list (xs.map enc)) from hv)
  exact ⟨a, vs, rfl, .inl ⟨same_l g.ih hs, q _ I1 H1 g (walks_revL hs ha)⟩⟩
end
end LR

set_option Elab.async false
set_option linter.all false
set_option maxRecDepth 100000
set_option maxHeartbeats 4000000
/-! The layer LS, part d: texts. -/
namespace LR
open PySem PySem.Spec PyProof.Rows L2
theorem dpAll_strs {K : PySem.W.Frag} {H : Hp} : ∀ (ns : List Str), DpAll K H (ns.map V.str) (ns.map PyData.str)
  | [] => .nil
  | n :: r => .cons (.str n) (dpAll_strs r)
section
variable {P : Program} {w : World} {K : PySem.W.Frag} {mg : Str → Option Value} {base : Heap} {N : List Str} {sc : Scope} {k : Nat}
variable {X : Cx} {e e2 a b : Expr} {es : List Expr} {A : List C} {pos p p2 p3 : Pos} {x y : Str}
/-- e.split(sep) -/
theorem ev_split {z sep : Str} (h1 : Ev X A e (.dat (.str z))) (h2 : Ev X A e2 (.dat (.str sep))) (hs0 : (sep.length == 0) = false) (hz : z.length + 2 ≤ sizeLine) (hs : starEach [e2] X.env = [(false, eval e2 X.env)] := by rfl) (hbase : attributeBase e "split" X.env (eval e X.env) = eval e X.env := by rfl) (hline : (p2.endLine == pos.line) = true := by rfl) :
    Ev X A (.Call (.Attribute e "split" p2) [e2] [] pos) (.own (.lst ((Txt.split z sep).map .str))) := fun I0 H0 σ I H rl Q q =>
  wx_of (pe_split wx_pe wx_pe hs hbase hline) (h1 I0 H0 σ I H rl _ fun v I1 H1 g1 hv => ⟨⟨z, dp_str hv⟩, h2 I0 H0 σ I1 H1 (rl.grow g1) _ fun u I2 H2 g2 hu => ⟨z, sep, dp_str hv, by rw [dp_str hu], hs0, hz, fun t ht => by
    have g := g1.trans g2
    have g3 := Grow.newH (o := .lst ((Txt.split z sep).map V.str)) g2.ih ht
    exact q _ _ _ (g.trans g3) ⟨t, _, rfl, g.hh.free ht, g2.ih.free ht, upd_same, dpAll_strs _⟩⟩⟩)
/-- sep.join(e) -/
theorem ev_join {kk : Bool} {z : Str} {ys : List Str} (h1 : Ev X A e (.dat (.str z))) (h2 : EvS X A e2 kk (ys.map .str)) (hz : (ys.map (·.length)).sum + ys.length * z.length ≤ 16777216) (hs : starEach [e2] X.env = [(false, eval e2 X.env)] := by rfl) (hbase : attributeBase e "join" X.env (eval e X.env) = eval e X.env := by rfl) (hline : (p2.endLine == pos.line) = true := by rfl) :
    Ev X A (.Call (.Attribute e "join" p2) [e2] [] pos) (.dat (.str (Txt.join z ys))) := fun I0 H0 σ I H rl Q q =>
  wx_of (pe_join wx_pe wx_pe hs hbase hline) (h1 I0 H0 σ I H rl _ fun v I1 H1 g1 hv => ⟨⟨z, dp_str hv⟩, h2 I0 H0 σ I1 H1 (rl.grow g1) _ fun t vs I2 H2 g2 hk ha => by
    rw [strs_of ha] at hk
    refine ⟨z, t, ys, dp_str hv, rfl, ?_, hz, q _ _ _ (g1.trans g2) (.str _)⟩
    cases kk with
    | true => exact .inl hk
    | false => exact .inr hk⟩)
/-- int(word) -/
theorem ev_intS {z : Str} {n : Int} (hg : Gl X "int") (hm : X.mg "int" = none) (h : Ev X A e (.dat (.str z))) (hn : PySem.intText? z = some n) (hz : z.length ≤ 640) (hb : bootBuiltins "int" = some (.type "int") := by decide +kernel) (hs : starEach (e :: []) X.env = (false, eval e X.env) :: starEach [] X.env := by rfl) : Ev X A (.Call (.Name "int" p) [e] [] pos) (.dat (.int n)) := fun I0 H0 σ I H rl Q q =>
  wx_of (pe_callTy call_int_str hg hm hb (pa_cons wx_pe pa_nil hs) (by decide) (by decide) hs rfl) (h I0 H0 σ I H rl _ fun v I1 H1 g hv => ⟨z, n, by rw [dp_str hv], hn, hz, q _ I1 H1 g (Dp.int _)⟩)
abbrev signD (c : Nat) : PyData := .str ⟨#[c]⟩
/-- a sign that is in a text, that is not -/
theorem cmpR_sign {c : Nat} {z : Str} (hm : behindInMarks .In b = false := by rfl) : CmpR X .In b (signD c) (.str z) (decide (c ∈ z.cps.toList)) :=
  ⟨_, op_in_sign, bin_val fun I H v w s h1 h2 Q q => ⟨c, z, dp_str h1, dp_str h2, q _ (.bl _)⟩, hm⟩
theorem cmpR_nsign {c : Nat} {z : Str} (hm : behindInMarks .NotIn b = false := by rfl) : CmpR X .NotIn b (signD c) (.str z) (!decide (c ∈ z.cps.toList)) :=
  ⟨_, op_notIn_sign, bin_val fun I H v w s h1 h2 Q q => ⟨c, z, dp_str h1, dp_str h2, q _ (.bl _)⟩, hm⟩
theorem strs_in (z : Str) : ∀ zs : List Str, inV (V.str z) (zs.map V.str) = decide (z ∈ zs)
  | [] => rfl
  | y :: r => by
    have ih := strs_in z r
    unfold inV at ih ⊢
    rw [List.map_cons, List.any_cons, ih]
    show ((y == z) || _) = _
    by_cases h : y = z
    · subst h; simp
    · have h2 : ¬ z = y := fun e => h e.symm
      have h3 : (y == z) = false := beq_eq_false_iff_ne.mpr h
      simp [h2, h3]
/-- a text that is in a tuple, in a list of texts -/
theorem cmpR_inT {z : Str} {zs : List Str} (hm : behindInMarks .In b = false := by rfl) : CmpR X .In b (.str z) (.tuple (zs.map .str)) (decide (z ∈ zs)) :=
  ⟨_, op_in_seq, bin_val fun I H v w s h1 h2 Q q => by
    rw [dp_str h1]
    obtain ⟨a, xs, rfl, hs, ha⟩ := dp_tup h2
    rw [strs_of ha] at hs
    refine ⟨a, zs.map V.str, rfl, .inr (same_t s hs), rfl, by simp [flatV], ?_⟩
    show Q (.bl (inV (V.str z) (zs.map V.str))) H
    rw [strs_in]
    exact q _ (.bl _), hm⟩
theorem cmpR_inL {z : Str} {zs : List Str} (hm : behindInMarks .In b = false := by rfl) : CmpR X .In b (.str z) (.list (zs.map .str)) (decide (z ∈ zs)) :=
  ⟨_, op_in_seq, bin_val fun I H v w s h1 h2 Q q => by
    rw [dp_str h1]
    obtain ⟨a, xs, rfl, hs, ha⟩ := dp_lst h2
    rw [strs_of ha] at hs
    refine ⟨a, zs.map V.str, rfl, .inl (same_l s hs), rfl, by simp [flatV], ?_⟩
    show Q (.bl (inV (V.str z) (zs.map V.str))) H
    rw [strs_in]
    exact q _ (.bl _), hm⟩
theorem cmpR_ninT {z : Str} {zs : List Str} (hm : behindInMarks .NotIn b = false := by rfl) : CmpR X .NotIn b (.str z) (.tuple (zs.map .str)) (!decide (z ∈ zs)) :=
  ⟨_, op_notIn_seq, bin_val fun I H v w s h1 h2 Q q => by
    rw [dp_str h1]
    obtain ⟨a, xs, rfl, hs, ha⟩ := dp_tup h2
    rw [strs_of ha] at hs
    refine ⟨a, zs.map V.str, rfl, .inr (same_t s hs), rfl, by simp [flatV], ?_⟩
    show Q (.bl (!inV (V.str z) (zs.map V.str))) H
    rw [strs_in]
    exact q _ (.bl _), hm⟩
/-- the signs of a text -/
theorem walks_str {K : PySem.W.Frag} {I1 : Hp} {z : Str} : Walks K (Its z) I1 (z.cps.toList.map signD) := by
  refine ⟨fun i d e I2 H2 s1 s2 => ?_, fun I2 H2 s1 s2 => by show z.cps.size ≤ _; simp⟩
  rw [List.getElem?_map, Array.getElem?_toList] at e
  cases hc : z.cps[i]? with
  | none => rw [hc] at e; cases e
  | some c =>
    rw [hc] at e
    cases e
    have hi : i < z.cps.size := by
      refine Classical.byContradiction fun h => ?_
      rw [Array.getElem?_eq_none (by omega)] at hc
      cases hc
    refine ⟨hi, fun v H3 ⟨e3, c', hc', e4⟩ => ?_⟩
    subst e3
    rw [hc] at hc'
    cases hc'
    rw [e4]
    exact ⟨I2, .refl s2, .str _⟩
theorem ei_str {tg : Expr} {z : Str} (h : Ev X A e (.dat (.str z))) : EvI X A tg e (z.cps.toList.map signD) := ⟨_, pi_str wx_pe, fun I0 H0 σ I H rl R q => h I0 H0 σ I H rl _ fun v I1 H1 g hv => ⟨z, dp_str hv, q _ I1 H1 g walks_str⟩⟩
/-- a tuple of texts known whole, as a tuple -/
theorem ev_fzW {ds : List PyData} (h : Ev X A e (.dat (fzD ds))) : Ev X A e (.dat (.tuple ds)) := fun I0 H0 σ I H rl Q q => h I0 H0 σ I H rl Q fun v I1 H1 g hv => q v I1 H1 g (dp_fzW (show Dp X.K I1 v (fzD ds) from hv))
theorem call_tuple_fz : CallR X (.type "tuple") (fun xs H Q => ∃ p ys, xs = [.ref p] ∧ SqL X.K H p ys ∧ ∀ l o, o.dict = none → H l = none → Q (.ref l) (upd H l (.frz o (.tup ys)))) := by
  intro pins s σ H xs us Q I r h
  obtain ⟨p, ys, rfl, hq, q⟩ := h
  obtain ⟨u, rfl, rx⟩ := vals1 r
  cases rx
  obtain ⟨its, r', pl, hz⟩ := I.list hq
  have hlen := r'.length
  refine call_tuple_list pl.isList (fun h' kp => ?_) (by simp only [List.size_toArray] <;> omega)
  have I1 : Inv X pins σ H { s with heap := h' } := I.kept (t' := s.toks) kp
  have I2 : Inv X pins σ (upd H h'.objs.size (.frz { cls := .type "tuple", data := .seq its.toArray } (.tup ys))) { s with heap := h'.push { cls := .type "tuple", data := .seq its.toArray } } :=
    I1.laid (t' := s.toks) (fun b o e => Heap.get?_push_of_some _ e) (Nat.le_refl _) (show ObjOk X.prog X.w _ _ _ (.frz _ (.tup ys)) from ⟨Heap.get?_push_size _ rfl, hz, its, r', IsTup.new _ _⟩)
  exact ⟨.ref h'.objs.size, _, I2, rfl, q _ _ rfl (I1.hok.fresh (Nat.le_refl _))⟩
/-- tuple(e), e a list of texts -/
theorem ev_tupleFz {ds : List PyData} (hg : Gl X "tuple") (hm : X.mg "tuple" = none) (h : EvS X A e true ds) (hd : strs1 ds = true) (hb : bootBuiltins "tuple" = some (.type "tuple") := by decide +kernel) (hs : starEach (e :: []) X.env = (false, eval e X.env) :: starEach [] X.env := by rfl) : Ev X A (.Call (.Name "tuple" p) [e] [] pos) (.dat (fzD ds)) := fun I0 H0 σ I H rl Q q =>
  wx_of (pe_callTy call_tuple_fz hg hm hb (pa_cons wx_pe pa_nil hs) (by decide) (by decide) hs rfl) (h I0 H0 σ I H rl _ fun p vs I1 H1 g hk ha => ⟨p, vs, rfl, hk, fun l o ho hl => by
    have g2 := Grow.new (o := .frz o (.tup vs)) g.ih hl
    exact q _ _ _ (g.trans g2) (Dp.fz upd_same ho hd (dpAll_mono g2.ii ha))⟩)
/-- names.index(e) -/
theorem ev_fzIdx {ys : List Str} {z : Str} {j : Nat} (h1 : Ev X A e (.dat (fzD (ys.map .str)))) (h2 : Ev X A e2 (.dat (.str z))) (hj : ys[j]? = some z) (hm : ∀ m, m < j → ys[m]? ≠ some z) (hbase : attributeBase e "index" X.env (eval e X.env) = eval e X.env := by rfl) (hs : starEach (e2 :: []) X.env = (false, eval e2 X.env) :: starEach [] X.env := by rfl)
    (hpl : ((backTo p3 (starEach (e2 :: []) X.env)).all (fun x => !x.1) && (backToKw p3 (keywordEach [] X.env)).all (fun x => x.1.isSome) && decide (([e2] : List Expr).length + ([] : List Keyword).length + (if ([] : List Keyword).isEmpty then 0 else 1) < 30)) = true := by rfl) (hline : (p2.endLine == p3.line) = true := by rfl) : Ev X A (.Call (.Attribute e "index" p2) [e2] [] p3) (.dat (.int (j : Nat))) := fun I0 H0 σ I H rl Q q => by
  intro pins s Iv
  have hw1 : Wx X e σ H (fun x H1 => ∃ t o vs I1, x = V.ref t ∧ Grow I H I1 H1 ∧ H1 t = some (.frz o (.tup vs)) ∧ o.dict = none ∧ vs = ys.map V.str) := h1 I0 H0 σ I H rl _ fun v I1 H1 g1 hv => by
    obtain ⟨t, o, vs, rfl, ho, hd, _, ha⟩ := dp_fz (show Dp X.K I1 v (fzD (ys.map .str)) from hv)
    exact ⟨t, o, vs, I1, rfl, g1, g1.ih _ _ ho, hd, strs_of ha⟩
  refine wpAny_Call_method_late hbase hpl hline rfl (thn (hw1 pins s Iv) fun v s1 ⟨x, H1, Iv1, r1, q1⟩ => ?_)
  obtain ⟨t, o, vs, I1, rfl, g1, ho, hd, rfl⟩ := q1
  cases r1
  obtain ⟨eg, hz, its, rv, o', eg', hc, hdat⟩ := Iv1.hok _ _ ho
  have eo : o' = o := Option.some.inj (eg'.symm.trans eg)
  subst eo
  refine ⟨"tuple", _, PySem.F.plainAttrs_tuple, PySem.F.slot_tuple_index, PySem.F.type_tuple_index, ⟨o', eg, hc⟩, fun a e => by cases e; exact ⟨o', eg, hd⟩, ?_⟩
  have hA : Wa X [e2] σ H1 (fun us H2 => ∃ I2, us = [.str z] ∧ Grow I1 H1 I2 H2) := wa_of (pa_cons (wx_pe (X := X) (e := e2)) pa_nil hs) (h2 I0 H0 σ I1 H1 (rl.grow g1) _ fun u I2 H2 g2 hu => ⟨I2, by rw [dp_str hu], g2⟩)
  have hA := hA p3 pins s1 Iv1
  rw [hs] at hA ⊢
  refine Calls.callWith_builtin (by show (false || (backTo p3 (starEach [] X.env)).any (·.1)) = false; rfl) (Calls.evalArgs_plain ?_)
  refine thn hA fun us s2 ⟨vs, H2, Iv2, r2, q2⟩ => ?_
  obtain ⟨I2, rfl, g2⟩ := q2
  exact mt_tup_index pins s2 σ H2 (.ref t) [.str z] _ us Q Iv2 rfl r2 ⟨t, ys, z, j, rfl, rfl, .inl (.inr ⟨_, g2.hh _ _ ho⟩), hj, hm, q _ I2 H2 (g1.trans g2) (.int _)⟩
variable (hX : XF P w K mg base N sc k X)
include hX
theorem tupleFz {ds : List PyData} (hg : GlS sc "tuple") (hm : mg "tuple" = none) (h : EvS X A e true ds) (hd : strs1 ds = true) (hs : starEach (e :: []) X.env = (false, eval e X.env) :: starEach [] X.env := by rfl) : Ev X A (.Call (.Name "tuple" p) [e] [] pos) (.dat (fzD ds)) :=
  ev_tupleFz (hX.gl hg) (by rw [hX.eM]; exact hm) h hd (hs := hs)
theorem intSF {z : Str} {n : Int} (hg : GlS sc "int") (hm : mg "int" = none) (h : Ev X A e (.dat (.str z))) (hn : PySem.intText? z = some n) (hz : z.length ≤ 640) (hs : starEach (e :: []) X.env = (false, eval e X.env) :: starEach [] X.env := by rfl) : Ev X A (.Call (.Name "int" p) [e] [] pos) (.dat (.int n)) :=
  ev_intS (hX.gl hg) (by rw [hX.eM]; exact hm) h hn hz (hs := hs)
end
end LR

set_option Elab.async false
set_option linter.all false
set_option maxRecDepth 100000
set_option maxHeartbeats 4000000
/-! The layer LS, part e: a try whose body raises nothing; what is known whole, as data. -/
namespace LR
open PySem PySem.Spec PyProof.Rows L2
section
variable {P : Program} {w : World} {K : PySem.W.Frag} {mg : Str → Option Value} {base : Heap} {N : List Str} {sc : Scope} {k : Nat}
variable {X : Cx} {e a b : Expr} {es : List Expr} {A A1 : List C} {pos p p2 : Pos} {x y : Str}
theorem XF.nox (hX : XF P w K mg base N sc k X) : XF P w K mg base N sc k X.nox where
  eP := hX.eP
  eW := hX.eW
  eK := hX.eK
  eM := hX.eM
  eB := hX.eB
  eN := hX.eN
  eS := hX.eS
  calm := hX.calm
  nd := hX.nd
  room := hX.room
  pass := PassesOwn.never
theorem XT.nox (hT : XT X) : XT X.nox := ⟨hT.stack, hT.frame, hT.fn⟩
/-- a try whose body raises nothing -/
theorem tryThru (hX : XF P w K mg base N sc k X) (hT : XT X) {body : List Stmt} {h₀ : ExceptHandler} {hs : List ExceptHandler} (hb : ∀ Y, XF P w K mg base N sc k Y → XT Y → Sm Y A body (.nx A1)) : S1 X A (.Try body (h₀ :: hs) [] [] pos) (.nx A1) := fun I0 H0 σ I H rl D f =>
  ws_of (ps_try_thru0 (wss_pss (X := X.nox))) (hb X.nox hX.nox hT.nox I0 H0 σ I H rl D f)
theorem dp_wk3 {K : PySem.W.Frag} {I : Hp} {v : V} {d1 d3 : PyData} {ds : List PyData} (h : Dp K I v (.tuple [d1, fzD ds, d3])) : Dp K I v (.tuple [d1, .tuple ds, d3]) := by
  have key : ∀ {vs : List V}, DpAll K I vs [d1, fzD ds, d3] → DpAll K I vs [d1, .tuple ds, d3] := fun a => by
    cases a with
    | cons a1 a => cases a with
      | cons a2 a => exact .cons a1 (.cons (dp_fzW a2) a)
  cases h with
  | tup h a => exact .tup h (key a)
  | tpf h s a => exact .tpf h (by cases d1 <;> first | exact s | cases s) (key a)
theorem ev_wk3 {d1 d3 : PyData} {ds : List PyData} (h : Ev X A e (.dat (.tuple [d1, fzD ds, d3]))) : Ev X A e (.dat (.tuple [d1, .tuple ds, d3])) := fun I0 H0 σ I H rl Q q => h I0 H0 σ I H rl Q fun v I1 H1 g hv => q v I1 H1 g (dp_wk3 (show Dp X.K I1 v (.tuple [d1, fzD ds, d3]) from hv))
end
end LR

set_option Elab.async false
set_option linter.all false
set_option maxRecDepth 100000
set_option maxHeartbeats 4000000
/-! The layer LS, part f: a call whose argument raises; a, b, c = e where e raises; a text so many times. -/
namespace LR
open PySem PySem.Spec PyProof.Rows L2
/-- a text so many times -/
def repS (z : Str) (n : Nat) : Str := ⟨(List.replicate n z.cps).foldl (· ++ ·) #[]⟩
theorem repS_tl (z : Str) (n : Nat) : (repS z n).cps.toList = (List.replicate n z.cps.toList).flatten := by
  have key : ∀ (n : Nat) (acc : Array Nat), ((List.replicate n z.cps).foldl (· ++ ·) acc).toList = acc.toList ++ (List.replicate n z.cps.toList).flatten := by
    intro n
    induction n with
    | zero => intro acc; simp
    | succ n ih =>
      intro acc
      rw [List.replicate_succ, List.foldl_cons, ih, List.replicate_succ, List.flatten_cons, Array.toList_append, List.append_assoc]
  have := key n #[]
  rw [List.nil_append] at this
  exact this
theorem repS_sign (c n : Nat) : (repS ⟨#[c]⟩ n).cps.toList = List.replicate n c := by
  rw [repS_tl]
  induction n with
  | zero => rfl
  | succ n ih =>
    rw [List.replicate_succ, List.flatten_cons, ih, List.replicate_succ]
    rfl
theorem repS_one (z : Str) : repS z 1 = z := by
  refine Str.ext' ?_
  show (#[] : Array Nat) ++ z.cps = z.cps
  simp
theorem op_mul_str {X : Cx} : OpR X (binaryOp .Mult) (fun x y H Q => ∃ z k, x = .str z ∧ y = .int k ∧ 1 ≤ k ∧ k ≤ 1000 ∧ z.length = 1 ∧ Q (.str (repS z k.toNat)) H) := by
  intro pins s σ H x y v u Q I rx ry h
  obtain ⟨z, k, rfl, rfl, k1, k2, zl, q⟩ := h
  obtain ⟨t, rfl⟩ := rx
  obtain ⟨t', rfl⟩ := ry
  refine PySem.P.mul_str (by rw [decide_eq_false (by omega), decide_eq_false (by omega)]; rfl) (fun _ _ h => ?_) (fun _ _ => ?_) ?_
  · have : (1 : Int) ≤ (2 ^ 63 - 1) / k := Int.le_ediv_of_mul_le (by omega) (by omega)
    rw [zl] at h
    omega
  · unfold PySem.Builtin.Str.tooLong
    rw [zl, sizeLine_eq]
    exact decide_eq_false (by omega)
  · rw [if_neg (by omega)]
    by_cases e : k = 1
    · subst e
      rw [show ((1 : Int) == 1 || z.length == 0) = true from rfl, if_pos rfl]
      rw [show (1 : Int).toNat = 1 from rfl, repS_one] at q
      exact ⟨.str z, H, I.tok _, ⟨_, rfl⟩, q⟩
    · rw [if_neg (by rw [zl]; simp [e])]
      refine ⟨?_, .str (repS z k.toNat), H, I.tok _, ⟨_, rfl⟩, q⟩
      have e := repS_tl z k.toNat
      have e2 : (repS z k.toNat).length = (repS z k.toNat).cps.toList.length := by simp [Str.length]
      show (repS z k.toNat).length ≤ sizeLine
      have zl2 : z.cps.toList.length = 1 := by rw [← zl]; simp [Str.length]
      rw [e2, e, List.length_flatten, List.map_replicate, zl2, List.sum_replicate_nat, sizeLine_eq]
      omega
section
variable {P : Program} {w : World} {K : PySem.W.Frag} {mg : Str → Option Value} {base : Heap} {N : List Str} {sc : Scope} {k : Nat}
variable {X : Cx} {e a b : Expr} {es : List Expr} {A A1 : List C} {pos p p2 : Pos} {x y : Str}
theorem evx_arg {k : Nat} {ps : List Str} {R : List PyData → Res → Prop} (G : Fn X.prog X.w X.K X.mg X.base k x ps R) (hr : Room k X.A) (hg : Gl X x) (ha : EvAX X A (e :: es) y) (hdb : (x == ("__debug__" : Str)) = false := by decide)
    (he : starEach (e :: es) X.env = (false, eval e X.env) :: starEach es X.env := by rfl) (hpl : (backTo pos (starEach es X.env)).any (·.1) = false := by rfl) : EvX X A (.Call (.Name x p) (e :: es) [] pos) y := fun I0 H0 σ I H rl W tk q Q => by
  obtain ⟨f, fd, F, hm, hk, hb, _⟩ := G.ex
  exact wx_of (pe_call F hr hg hm hk hb .nil passL wa_pa hdb he hpl) (ha I0 H0 σ I H rl W tk q _)
theorem ev_mulS {z : Str} {i : Int} (h1 : Ev X A a (.dat (.str z))) (h2 : Ev X A b (.dat (.int i))) (h : 1 ≤ i) (h' : i ≤ 1000) (hz : z.length = 1) : Ev X A (.BinOp a .Mult b pos) (.dat (.str (repS z i.toNat))) :=
  ev_op op_mul_str h1 h2 (bin_val fun I H v w s h1 h2 Q q => ⟨z, i, dp_str h1, dp_int h2, h, h', hz, q _ (.str _)⟩)
variable (hX : XF P w K mg base N sc k X)
include hX
theorem argXF {j : Nat} {ps : List Str} {R : List PyData → Res → Prop} (G : Fn P w K mg base j x ps R) (hj : j ≤ k) (hg : GlS sc x) (ha : EvAX X A (e :: es) y) (hdb : (x == ("__debug__" : Str)) = false)
    (he : starEach (e :: es) X.env = (false, eval e X.env) :: starEach es X.env := by rfl) (hpl : (backTo pos (starEach es X.env)).any (·.1) = false := by rfl) : EvX X A (.Call (.Name x p) (e :: es) [] pos) y :=
  evx_arg (hX.fnX G) (hX.room.mono hj) (hX.gl hg) ha hdb he hpl
theorem unpX {js : List Nat} {tgs : List Expr} {kk} (hg : PGs X tgs (gNames js)) (he : EvX X A e x) (hlen : (assignEach tgs X.env).length = js.length := by rfl) (hst : (assignEach tgs X.env).findIdx? (·.1) = none := by rfl)
    (hs : swapsWithSole [.Tuple tgs kk p2] e pos.line X.env = pure false := by rfl) (hw : swappedStores [.Tuple tgs kk p2] e X.env = pure none := by rfl) : S1 X A (.Assign [.Tuple tgs kk p2] e pos) (.ex x A) := fun I0 H0 σ I H rl D f => by
  obtain ⟨W, tk, f⟩ := f
  exact ws_of (ps_asg wx_pe (pg_tup hX.calm hg hlen hst) hs hw) (he I0 H0 σ I H rl W tk (fun I1 H1 g c hc => f σ I1 H1 g.ii (rl.grow g) c hc) _)
end
end LR

set_option Elab.async false
set_option linter.all false
set_option maxRecDepth 100000
set_option maxHeartbeats 4000000
/-! The layer LS, part h: try .. except X: without a name. -/
namespace LR
open PySem PySem.Spec PyProof.Rows L2
section
variable {P : Program} {w : World} {K : PySem.W.Frag} {mg : Str → Option Value} {base : Heap} {N : List Str} {sc : Scope} {k : Nat}
variable {X : Cx} {e a b : Expr} {es : List Expr} {A : List C} {pos p p2 : Pos} {x y : Str} {D ad : Addr}
variable (hX : XF P w K mg base N sc k X) (hT : XT X)
include hX hT
/-- a try whose body runs through -/
theorem tryON {body suite : List Stmt} {b₀ : Stmt} {np pos' : Pos} {cl : Addr} {o : Out} (hg : GlS sc x) (hm : mg x = some (.ref cl)) (hdb : (x == ("__debug__" : Str)) = false) (ho : ∀ z A1, o ≠ .ex z A1)
    (hb : ∀ Y, XF P w K mg base N sc k Y → XT Y → Sm Y A body o) : S1 X A (.Try body [.ExceptHandler (some (.Name x np)) none (b₀ :: suite) pos'] [] [] pos) o := fun I0 H0 σ I H rl D f => by
  refine ws_of (ps_try_only (tb := fun W D σ H => ∀ pn xe, Takes (X.tr pn xe) W → PassesOwn (model X.prog X.w) X.A X.env xe → Wss (X.tr pn xe) body D σ H) (ts := fun a cls d D σ H => ∀ oe pn, Zc cls d oe → (∃ vs, oe.data = .fields vs) → Wss (X.suite a ((a, oe) :: pn)) (b₀ :: suite) D σ H) (Wout := fun _ _ _ _ => False)
    hT.stack hT.frame ⟨hX.gl hg, hdb, .inl (by rw [hX.eM]; exact hm)⟩ takes0 (fun W pn xe tk hp => ⟨fun pins s σ H D I h => h pn xe tk hp pins s I⟩) (fun a oe cls d pn hz hf => ⟨fun pins s σ H D I h => h oe pn hz hf pins s I⟩)) ?_
  intro pn xe tk hp
  refine hb _ (hX.tr hp) hT.tr I0 H0 σ I H rl D ?_
  cases o with
  | nx A1 => exact f
  | rt c => exact f
  | bk A1 => exact f
  | ex z A1 => exact absurd rfl (ho z A1)
/-- a try whose body raises what is caught -/
theorem tryOX {body suite : List Stmt} {b₀ : Stmt} {np pos' : Pos} {z : Str} {cl D : Addr} {A1 A2 : List C} (hg : GlS sc x) (hm : mg x = some (.ref cl)) (hdb : (x == ("__debug__" : Str)) = false) (hz : mg z = some (.ref D)) (he : PySem.W.exmOne K (.ref D) (.ref cl) = some true) (hE : ExcC K D)
    (hb : ∀ Y, XF P w K mg base N sc k Y → XT Y → Sm Y A body (.ex z A1)) (hs : ∀ Y a, XS P w K mg N sc D a Y → Sm Y A1 (b₀ :: suite) (.nx A2)) :
    S1 X A (.Try body [.ExceptHandler (some (.Name x np)) none (b₀ :: suite) pos'] [] [] pos) (.nx A2) := fun I0 H0 σ I H rl Dn f => by
  refine ws_of (ps_try_only (tb := fun W D σ H => ∀ pn xe, Takes (X.tr pn xe) W → PassesOwn (model X.prog X.w) X.A X.env xe → Wss (X.tr pn xe) body D σ H) (ts := fun a cls d D σ H => ∀ oe pn, Zc cls d oe → (∃ vs, oe.data = .fields vs) → Wss (X.suite a ((a, oe) :: pn)) (b₀ :: suite) D σ H) (Wout := fun _ _ _ _ => False)
    hT.stack hT.frame ⟨hX.gl hg, hdb, .inl (by rw [hX.eM]; exact hm)⟩ takes0 (fun W pn xe tk hp => ⟨fun pins s σ H D I h => h pn xe tk hp pins s I⟩) (fun a oe cls d pn hz hf => ⟨fun pins s σ H D I h => h oe pn hz hf pins s I⟩)) ?_
  intro pn xe tk hp
  refine hb _ (hX.tr hp) hT.tr I0 H0 σ I H rl Dn ⟨_, tk, fun σ1 I1 H1 s1 r1 c hc => ?_⟩
  have hc : X.mg z = some (.ref c) := hc
  rw [hX.eM, hz] at hc
  cases hc
  refine ⟨true, by rw [hX.eK]; exact he, fun _ a ha oe pn2 hzc hf => ?_, fun q => Bool.noConfusion q⟩
  have r1 : Rel X.K I0 H0 A1 σ1 I1 H1 := r1
  have hE' : ExcC X.K D := by rw [hX.eK]; exact hE
  have xs : XS P w K mg N sc D a (X.suite a ((a, oe) :: pn2)) := ⟨hX.eP, hX.eW, hX.eK, hX.eM, hX.eN, hX.eS, hX.nd, by
    have q := call_isE (X := X) (pn := pn2) (a := a) hE' hzc hf
    rw [hX.eK] at q
    exact q, by
    have q := call_isE2 (X := X) (pn := pn2) (a := a) hE' hzc hf
    rw [hX.eK] at q
    exact q, hT.fn⟩
  exact hs _ a xs I0 H0 _ I1 H1 r1 _ fun σ2 I2 H2 s2 r2 => f _ I2 H2 (s1.trans s2) r2
end
end LR

set_option Elab.async false
set_option linter.all false
set_option maxRecDepth 100000
set_option maxHeartbeats 4000000
/-! The layer LS, part g: a list comprehension whose element raises. -/
namespace LR
open PySem PySem.Spec PyProof.Rows L2
theorem sky_sub {B B' : Heap} {l : List Env} {a : Addr} {Z : Obj → Prop} {L : Addr} {h : Heap} (s : ∀ b o, B'.get? b = some o → B.get? b = some o) (x : Sky B l a Z L h) : Sky B' l a Z L h := by
  have nn : ∀ b, B.get? b = none → B'.get? b = none := fun b e => by
    cases q : B'.get? b with
    | none => rfl
    | some o => rw [s b o q] at e; cases e
  have ff : ∀ {l : List Env}, h.FunFrames B l → h.FunFrames B' l := by
    intro l
    induction l with
    | nil => exact fun x => x
    | cons e r ih => exact fun ⟨a, ⟨L, o, b, c, d⟩, q⟩ => ⟨a, ⟨L, o, b, nn _ c, d⟩, ih q⟩
  have tr : ∀ {fl : Value}, HandSPX.TracedZ h B a Z fl → HandSPX.TracedZ h B' a Z fl := fun ⟨oe, vs, T, oT, ts, a1, a2, a3, a4, a5, r⟩ => ⟨oe, vs, T, oT, ts, a1, a2, a3, a4, nn _ a5, r⟩
  rcases x with ⟨a1, a2, a3, r⟩ | ⟨a1, a2, a3, a4⟩ | ⟨a1, a2, a3, a4⟩
  · exact .inl ⟨fun b o e => a1 b o (s b o e), nn _ a2, ff a3, r⟩
  · exact .inr (.inl ⟨fun b o e => a1 b o (s b o e), nn _ a2, ff a3, tr a4⟩)
  · exact .inr (.inr ⟨fun b o e => a1 b o (s b o e), nn _ a2, ff a3, tr a4⟩)
section
variable {M : Model} {A : Around} {E : Value → Shared → Prop} {s s' : Shared} {Z : Obj → Prop} {base : Heap} {env cenv : Env} {outer l : List Env} {L e : Addr}
/-- an exception that flew, its flight not here, is noted -/
theorem looks_fl {fl : Value} {Q : Unit → Shared → Prop} (hZ : PXN.Steady1 Z) (hfr : A.frames = some (env :: outer)) (hf : env.frame = some L) (hne : (fl == rawInt L) = false) (hkb : base.StaysIn s.heap) (hen : base.get? e = none) (hl : s.heap.FunFrames base (env :: outer)) (ht : HandSPX.TracedZ s.heap base e Z fl)
    (hQ : ∀ h', HandSPX.HeldZ base (env :: outer) e Z L h' → s.heap.UpToSlots h' → Q () { s with heap := h' }) : wpAny M A (noteFrame (.ref e) env) Q E s := by
  obtain ⟨oe, vs, T, oT, ts, he, hz, hd, h1, hnT, hTe, hT, hdT, h3⟩ := ht
  unfold noteFrame
  simp only [hf]
  refine wpAny_bind (wpAny_field he hd h1 ?_)
  rw [if_pos (show (Value.ref T != Value.none) = true from by simp)]
  refine wpAny_bind (wpAny_field hT hdT h3 ?_)
  rw [if_neg (show ¬ ((fl == rawInt L) = true) from by rw [hne]; decide)]
  refine wpAny_bind (wpAny_setField hT hdT (Array.getElem?_eq_some_iff.mp h3).1 ?_)
  have other : ∀ b, b ≠ T → (s.heap.update T (Obj.mapFields (·.setIfInBounds 3 Value.none))).get? b = s.heap.get? b := fun b hb => Heap.get?_update_other _ _ (Ne.symm hb)
  have noRecord : ∀ b o, s.heap.get? b = some o → (∀ vs, o.data ≠ .fields vs) → b ≠ T := fun b o hb hnf q => by
    rw [q, hT] at hb; injection hb with hb; subst hb; exact hnf ts hdT
  refine PXN.wpAny_entryZ hZ hfr (hl.of_keeps fun b o hb hnf => ⟨o, (other b (noRecord b o hb hnf)).trans hb, rfl⟩) hf ((other e (Ne.symm hTe)).trans he)
    (fun b o hbo => (other b fun q => by rw [q, hnT] at hbo; cases hbo).trans (hkb b o hbo)) hen hd (Array.getElem?_eq_some_iff.mp h1).1 hz fun h' hN => ?_
  obtain ⟨x1, x2, x3, x4⟩ := hN
  exact hQ h' ⟨x1, hen, x2, x3⟩ fun b o hb hnf => x4 b o ((other b (noRecord b o hb hnf)).trans hb) hnf
theorem tracedZ_sameBut {h h' base : Heap} {e L : Addr} {fl : Value} {m : Str → Option Value} (x : HandSPX.TracedZ h base e Z fl) (hn : h.Ns L m) (hs : Heap.SameBut L h h') : HandSPX.TracedZ h' base e Z fl := by
  obtain ⟨oe, vs, T, oT, ts, he, hc, hd, h1, hnT, hTe, hT, hdT, h3⟩ := x
  obtain ⟨oL, es, ep, hoL, hdL, _⟩ := hn
  have neE : e ≠ L := fun q => by
    rw [q, hoL] at he
    have z := Option.some.inj he
    rw [← z, hdL] at hd
    cases hd
  have neT : T ≠ L := fun q => by
    rw [q, hoL] at hT
    have z := Option.some.inj hT
    rw [← z, hdL] at hdT
    cases hdT
  exact ⟨oe, vs, T, oT, ts, (hs.2 e neE).trans he, hc, hd, h1, hnT, hTe, (hs.2 T neT).trans hT, hdT, h3⟩
theorem compFails_heldZ {m : Str → Option Value} (hf : cenv.frame = some L) (hbC : base.get? cenv.locals = none) (hn : s'.heap.Ns cenv.locals m) (hh : HandSPX.HeldZ base l e Z L s'.heap)
    (hQ : ∀ h', HandSPX.HeldZ base l e Z L h' → (∀ b o, s'.heap.get? b = some o → b ≠ cenv.locals → (∀ vs, o.data ≠ .fields vs) → ∃ sl, h'.get? b = some { o with slots := sl }) → E (.ref e) { s' with heap := h' }) :
    CompFails M A E cenv (.ref e) s' := by
  refine ⟨m, hn, fun h₂ m₂ hn₂ hs₂ => ?_⟩
  obtain ⟨b1, b0, f1, t1⟩ := hh
  have b2 : base.StaysIn h₂ := fun b o hb => (hs₂.2 b fun q => by rw [q, hbC] at hb; cases hb).trans (b1 b o hb)
  have f2 : h₂.FunFrames base l := Heap.FunFrames.sameBut hs₂ hn₂ f1
  have t2 := tracedZ_sameBut t1 hn hs₂
  obtain ⟨oe, vs, T, oT, ts, he, hc, hd, h1, r⟩ := id t2
  unfold PySem.passOn
  refine wpAny_bind (wpAny_field he hd h1 ?_)
  rw [if_neg (show ¬ ((Value.ref T == Value.none) = true) from by simp)]
  rw [hf]
  refine wpAny_bind (HandSPX.setFlight_onZ ⟨b2, b0, f2, t2⟩ fun h₃ hh3 k3 => ?_)
  refine wpAny_throw ?_
  exact hQ h₃ hh3 fun b o hb hbL hnf => k3 b o ((hs₂.2 b hbL).trans hb) hnf
end
/-- the two kinds of exceptions: (true) of those whose context is none alone -/
def TkK (N : Bool) (X : Cx) (W : WX) : Prop := if N = true then L2N.Takes X W else L2.Takes X W
def ZK (N : Bool) (cls : Value) (d : Option Addr) : Obj → Prop := if N = true then L2N.Zn cls d else Zc cls d
theorem ZK.steady {N : Bool} {cls : Value} {d : Option Addr} : PXN.Steady1 (ZK N cls d) := by
  cases N with
  | true => exact L2N.Zn.steady
  | false => exact fun o v h => Zc.steady o _ h
def XEK (N : Bool) (X : Cx) (W : WX) (u : Value) (s' : Shared) : Prop :=
  ∃ (a : Addr) (B : Heap) (sI : Shared) (pins : List (Addr × Obj)) (σ : L2.St) (H : Hp) (cls : Value) (d : Option Addr),
    u = .ref a ∧ Inv X pins σ H sI ∧ (∀ b o, sI.heap.get? b = some o → b ∉ frs X.stack → B.get? b = some o) ∧ sI.heap.UpToSlots s'.heap ∧
      Sky B X.stack a (ZK N cls d) X.env.locals s'.heap ∧ H a = none ∧ s'.os = sI.os ∧ AllBare s'.gens ∧ W cls d σ H
theorem tkK_iff {N : Bool} {X : Cx} {W : WX} : TkK N X W ↔ ∀ u s', XEK N X W u s' → X.xe u s' := by
  cases N with
  | true => exact Iff.rfl
  | false => exact Iff.rfl
section
variable {X : Cx} {W : WX} {pins : List (Addr × Obj)} {σ : L2.St} {H3 : Hp} {s3 : Shared}
/-- an exception out of a comprehension's block -/
theorem takes_blk (N : Bool) {scope : Scope} {ce : Env} {fp : List Addr} (hs : X.stack = X.env :: X.outer) (hf : X.env.frame = some X.env.locals) (tk : TkK N X W) (I3 : Inv X pins σ H3 s3) (f3 : ∀ b ∈ fp, FpOk X pins H3 b ∧ b < s3.heap.objs.size)
    (hcf : ce.frame = X.env.frame) (hcL : ce.locals = s3.heap.objs.size) :
    TkK N ((X.blk s3 H3 scope ce fp).wish (notedBy (model X.prog X.w) X.A ce (CompFails (model X.prog X.w) X.A X.xe ce))) (fun c d _ H => W c d σ H) := by
  rw [tkK_iff]
  rintro u s' ⟨a, B, sI, pins', σ', H', cls, d, rfl, I, nb, up, sky, na, os, ag, w⟩
  have nC : H' s3.heap.objs.size = none := by
    have z : H' ce.locals = none := I.free
    rw [hcL] at z
    exact z
  have I7 : Inv X pins σ H' sI := I3.call' (ch := fp) I.os I.base I.hok I.bare fun b hb => ⟨(f3 b hb).1.2.2.2.1, (f3 b hb).1.2.1, (f3 b hb).1.2.2.2.2.1, (f3 b hb).1.2.2.2.2.2⟩
  obtain ⟨f0, f1, f2, f4, f5, f6⟩ := I3.fpOk (Nat.le_refl _) nC
  have nF : s3.heap.objs.size ∉ frs X.stack := fun hm => by
    rcases List.mem_cons.mp (I3.stkSub _ hm) with z | z
    · exact f1 z
    · exact f2 z
  have J : Inv X pins σ H' { sI with heap := PySem.W.hideAll sI.heap [s3.heap.objs.size], toks := sI.toks } := I7.turned (it := s3.heap.objs.size) (fun b o hb e => PySem.W.hideAll_get _ e (by simpa using hb)) f0 f1 f4 f5 f6
  obtain ⟨m, hn, _⟩ := I.loc
  have hn : sI.heap.Ns ce.locals m := hn
  have sky : Sky B (X.env :: X.outer) a (ZK N cls d) ce.locals s'.heap := by rw [← hs]; exact sky
  have sky' := sky_sub (B' := PySem.W.hideAll B [s3.heap.objs.size]) (fun b o e => PySem.W.of_hideAll _ e) sky
  have hfr : X.A.frames = some (X.env :: X.outer) := by rw [I3.ok.frames, hs]
  have hBC : (PySem.W.hideAll B [s3.heap.objs.size]).get? ce.locals = none := PySem.W.hideAll_none _ (by rw [hcL]; exact List.mem_cons_self)
  show wpAny (model X.prog X.w) X.A (noteFrame (.ref a) ce) (fun _ s'' => CompFails (model X.prog X.w) X.A X.xe ce (.ref a) s'') _ s'
  rw [noteFrame_env _ hcf]
  have fin : ∀ h1, HandSPX.HeldZ (PySem.W.hideAll B [s3.heap.objs.size]) (X.env :: X.outer) a (ZK N cls d) X.env.locals h1 → s'.heap.UpToSlots h1 → CompFails (model X.prog X.w) X.A X.xe ce (.ref a) { s' with heap := h1 } := fun h1 hh1 up1 => by
    refine compFails_heldZ (hcf.trans hf) hBC (hn.upToSlots fun b o e nf => ?_) hh1 fun h2 hh2 k2 => (tkK_iff.mp tk) _ _ ⟨a, _, _, pins, σ, H', cls, d, rfl, J, fun b o e hb => ?_, fun b o e nf => ?_, .inr (.inr (by rw [hs]; exact hh2)), na, os, ag, w⟩
    · obtain ⟨sl, e1⟩ := up b o e nf
      obtain ⟨sl2, e2⟩ := up1 b _ e1 nf
      exact ⟨sl2, e2⟩
    · have hbC : b ≠ s3.heap.objs.size := fun z => by
        have q : (PySem.W.hideAll sI.heap [s3.heap.objs.size]).get? b = some o := e
        rw [PySem.W.hideAll_none _ (by rw [z]; exact List.mem_cons_self)] at q
        cases q
      exact PySem.W.hideAll_get _ (nb b o (PySem.W.of_hideAll _ e) hb) (by simpa using hbC)
    · have hbC : b ≠ s3.heap.objs.size := fun z => by
        have q : (PySem.W.hideAll sI.heap [s3.heap.objs.size]).get? b = some o := e
        rw [PySem.W.hideAll_none _ (by rw [z]; exact List.mem_cons_self)] at q
        cases q
      obtain ⟨sl, e1⟩ := up b o (PySem.W.of_hideAll _ e) nf
      obtain ⟨sl2, e2⟩ := up1 b _ e1 nf
      obtain ⟨sl3, e3⟩ := k2 b _ e2 (by rw [hcL]; exact hbC) nf
      exact ⟨sl3, e3⟩
  rcases sky' with ⟨hB, hnn, hl, oe, vs, he, hz, hd, h1⟩ | ⟨a1, a2, a3, a4⟩ | ⟨a1, a2, a3, a4⟩
  · exact PXN.look_newZ ZK.steady hfr hl hf he hB hnn hd h1 hz fin
  · exact looks_fl ZK.steady hfr hf (by simp [rawInt]) a1 a2 a3 a4 fin
  · refine looks_fl ZK.steady hfr hf ?_ a1 a2 a3 a4 fin
    have ne : ce.locals ≠ X.env.locals := by rw [hcL]; exact f1
    have ne' : ¬ ((ce.locals : Int) = (X.env.locals : Int)) := fun z => ne (Int.ofNat.inj z)
    refine beq_eq_false_iff_ne.mpr fun z => ?_
    simp only [rawInt, Value.int.injEq] at z
    exact ne' z.1
end
section
variable {X : Cx}
/-- [elt for target in iter], the element raises at last -/
def tLcX (X : Cx) (N : Bool) (scope : Scope) (elt : Expr) (wi : TI) (g : TG) (te : TE) (vs : List Nat) (E : XK) : L2.St → Hp → Prop := fun σ H => wi σ H fun J H1 => ∀ D, H1 D = none → ∃ W : Nat → Nat → Hp → Prop, (∃ m, W 0 m (upd H1 D (.lst []))) ∧ ∀ i m H, W i m H →
  J.go i H ∧ ∃ Nx : Hp → Prop, (∀ H', Nx H' → ∃ m', m' < m ∧ W (i + 1) m' H') ∧ ∀ x H', J.yld i H x H' → g x (wipe σ vs) H' fun σ2 H2 => wipe σ2 vs = wipe σ vs ∧
    ((te σ2 H2 fun y H4 => ∃ acc, H4 D = some (.lst acc) ∧ acc.length < sizeLine ∧ Nx (upd H4 D (.lst (acc ++ [y])))) ∨
      ∀ s H C cl fp xe, PassesOwn (model X.prog X.w) X.A (compEnvC scope cl C X.env) xe → TkK N ((X.blk s H scope (compEnvC scope cl C X.env) fp).wish xe) (fun c d _ H => E c d H) → Wx ((X.blk s H scope (compEnvC scope cl C X.env) fp).wish xe) elt σ2 H2 (fun _ _ => False))
theorem lc_coreX (N : Bool) {W : WX} {pins : List (Addr × Obj)} {s : Shared} {σ : L2.St} {H : Hp} {elt tg iter : Expr} {scope : Scope} {own : List (Str × Nat)} {pos pos' : Pos} {wi : TI} {g : TG} {te : TE} {Qf : Value → Shared → Prop}
    (hst : X.stack = X.env :: X.outer) (hf : X.env.frame = some X.env.locals) (tk : TkK N X W) (hc : X.calm = true) (hN : X.N.Nodup) (I : Inv X pins σ H s) (hi : PI X tg iter wi) (ok : BlkOk X.N X.env.scope scope own)
    (hg : ∀ (s : Shared) (H : Hp) (C : Addr) (cl : List (Str × Addr)) (fp : List Addr), PG (X.blk s H scope (compEnvC scope cl C X.env) fp) tg g)
    (he : ∀ (s : Shared) (H : Hp) (C : Addr) (cl : List (Str × Addr)) (fp : List Addr), PE (X.blk s H scope (compEnvC scope cl C X.env) fp) elt te) (hs : ∀ x, foldedSetIterable iter X.env x = pure x)
    (h : tLcX X N scope elt wi g te (own.map (·.2)) (fun c d H => W c d σ H) σ H) :
    wpAny (model X.prog X.w) X.A (comprehension (.ListComp elt [⟨tg, iter, [], 0⟩] scope pos) scope X.env pos' (newList []) false (eval iter X.env) none) Qf X.xe s := by
  have hfree : ∀ y ∈ scope.names, y.2 = .free → ∃ c, X.env.cells.lookup y.1 = some c := fun y hy e => by
    rcases ok.free y hy e with k | k
    · exact I.ok.has _ (.inl k)
    · exact I.ok.has _ (.inr k)
  refine comprehension_at (use := none) rfl hs (closure_ok hfree) ok.kind (fun y hy e => by rw [ok.uniq y hy, e])
    (thn (hi.run pins s σ H _ I h) fun xv s1 hx => thn hx fun itv s2 h2 => ?_)
  obtain ⟨it, fp, tn, J, H2, e, I2, T, st2, f2, q⟩ := h2
  subst e
  refine wpAny_newObj_type (newEnv_comp ?_) (by show 0 ≤ sizeLine; decide)
  generalize hD : s2.heap.objs.size = D
  have hDn : H2 D = none := I2.hok.fresh (Nat.le_of_eq hD)
  obtain ⟨Wt, ⟨m0, w0⟩, turn⟩ := q D hDn
  generalize hs3 : ({ s2 with heap := s2.heap.push { cls := .type "list", data := .seq ([] : List Value).toArray } } : Shared) = s3
  have I3 : Inv X pins σ (upd H2 D (.lst [])) s3 := by
    rw [← hs3]
    refine I2.laid (t' := s2.toks) (fun b o e => Heap.get?_push_of_some _ e) (Nat.le_of_eq hD) ⟨Nat.zero_le _, [], 0, .nil, ?_⟩
    rw [← hD]
    exact Heap.get?_push_size _ rfl
  have h3 : s3.heap = s2.heap.push { cls := .type "list", data := .seq ([] : List Value).toArray } := by rw [← hs3]
  have sz : ∀ b ∈ fp, b < s2.heap.objs.size := fun b hb => by
    obtain ⟨o, e, _⟩ := T.obj _ _ st2 b hb
    exact Heap.lt_size e
  have f3 : ∀ b ∈ fp, FpOk X pins (upd H2 D (.lst [])) b ∧ b < s3.heap.objs.size := fun b hb => by
    have hlt := sz b hb
    refine ⟨⟨?_, (f2 b hb).2⟩, by rw [h3, Heap.size_push]; exact Nat.lt_succ_of_lt hlt⟩
    rw [upd_ne (by rw [← hD]; exact Nat.ne_of_lt hlt)]
    exact (f2 b hb).1
  have st3 : tn 0 s3.heap := T.keep _ _ _ st2 fun b _ o e => by rw [h3]; exact Heap.get?_push_of_some _ e
  have I4 := block_start I3 ok hN f3
  have pg := hg s3 (upd H2 D (.lst [])) s3.heap.objs.size (cellsFrom (s3.heap.objs.size + 1) scope.names (cloFrom X.env.cells scope.names [])) fp
  have pe := he s3 (upd H2 D (.lst [])) s3.heap.objs.size (cellsFrom (s3.heap.objs.size + 1) scope.names (cloFrom X.env.cells scope.names [])) fp
  show codeAny _ _ (.compStart (.ListComp elt [⟨tg, iter, [], 0⟩] scope pos) 0 (.ref it) (.ref D) (compEnvC scope (cellsFrom (s3.heap.objs.size + 1) scope.names (cloFrom X.env.cells scope.names [])) s3.heap.objs.size X.env)) (compEnds (model X.prog X.w) X.A X.xe none Qf (.ref D) (compEnvC scope (cellsFrom (s3.heap.objs.size + 1) scope.names (cloFrom X.env.cells scope.names [])) s3.heap.objs.size X.env)) { s3 with heap := pushCells (s3.heap.push { cls := .type "dict", data := .dict #[] }) scope.names }
  have nfp : ∀ b ∈ fp, (upd H2 D (.lst [])) b = none := fun b hb => (f3 b hb).1.1
  generalize hce : compEnvC scope (cellsFrom (s3.heap.objs.size + 1) scope.names (cloFrom X.env.cells scope.names [])) s3.heap.objs.size X.env = ce at I4 pg pe ⊢
  have cL : ce.locals = s3.heap.objs.size := by subst hce; rfl
  have cF : ce.frame = X.env.frame := by subst hce; rfl
  generalize hH3 : upd H2 D (.lst []) = H3 at I3 I4 pg pe w0 nfp f3
  generalize hs4 : ({ s3 with heap := pushCells (s3.heap.push { cls := .type "dict", data := .dict #[] }) scope.names } : Shared) = s4 at I4 ⊢
  have st4 : tn 0 s4.heap := T.keep _ _ _ st3 fun b _ o e => by rw [← hs4]; exact pushCells_keeps _ _ _ _ (Heap.get?_push_of_some _ e)
  have stat : ∀ {σ' : L2.St} {H' : Hp} {s' : Shared}, Inv (X.blk s3 H3 scope ce fp) [] σ' H' s' → (∀ b ∈ fp, H' b = none) → ∀ b ∈ fp, FpOk (X.blk s3 H3 scope ce fp) [] H' b := fun {σ' H' s'} I' hn b hb =>
    ⟨hn b hb, (I'.ok.exf b hb).1, I'.ok.exfs b hb, .inl hb, fun x c e => (I'.ok.exf b hb).2 x c e, fun p hp => absurd (show p ∈ ([] : List (Addr × Obj)) ++ [] from hp) (by simp)⟩
  have tkb := takes_blk (scope := scope) N hst hf tk I3 f3 cF cL
  have loop : codeAny (model X.prog X.w) X.A (.compLoop (.ListComp elt [⟨tg, iter, [], 0⟩] scope pos) 0 (.ref it) (.ref D) ce) (compEnds (model X.prog X.w) X.A X.xe none Qf (.ref D) ce) s4 := by
    refine compLoop_any (fun n s' => ∃ i H', Inv (X.blk s3 H3 scope ce fp) [] (wipe σ (own.map (·.2))) H' s' ∧ tn i s'.heap ∧ (∀ b ∈ fp, H' b = none) ∧ Wt i n H') ?_ m0 ⟨0, H3, I4, st4, nfp, w0⟩
    rintro n s5 ⟨i, H5, I5, st5, n5, w5⟩
    obtain ⟨go, Nx, hNx, step⟩ := turn i n H5 w5
    have ti := T.item (X.blk s3 H3 scope ce fp) rfl rfl rfl hc i [] s5 _ H5 (fun _ _ => False) I5 (stat I5 n5) st5 go
    refine thnF ti fun r s6 ⟨u, hr, h6⟩ => ?_
    subst hr
    refine thnF h6 fun _ s7 ⟨x, H7, I7, r7, y7, st7, n7⟩ => ?_
    have I7' := I7.pinned (stat I7 n7) (T.obj _ _ st7)
    refine thnF (pg.run _ s7 _ H7 x u _ I7' r7 (step x H7 y7)) fun _ s8 ⟨σ8, H8, I8, hw8, q8⟩ => ?_
    refine wpAny_tests_nil ?_
    rw [if_pos rfl]
    rcases q8 with q8 | q8
    · -- the element goes through
      have fin : ∀ {s' : Shared} {H' : Hp}, Inv (X.blk s3 H3 scope ce fp) ([] ++ pinsAt fp s7.heap) σ8 H' s' → Nx H' → ∃ m, m < n ∧ ∃ i H', Inv (X.blk s3 H3 scope ce fp) [] (wipe σ (own.map (·.2))) H' s' ∧ tn i s'.heap ∧ (∀ b ∈ fp, H' b = none) ∧ Wt i m H' := fun {s' H'} I' nx => by
        obtain ⟨m', hm, w'⟩ := hNx H' nx
        have pin' : ∀ b ∈ fp, ∀ o, s7.heap.get? b = some o → s'.heap.get? b = some o ∧ H' b = none := fun b hb o e =>
          let z := I'.pin (b, o) (List.mem_append_right _ (List.mem_append_right _ (mem_pinsAt hb e)))
          ⟨z.1, z.2.1⟩
        have hl : (wipe σ (own.map (·.2))).length = σ8.length := by rw [← hw8, wipe_length]
        refine ⟨m', hm, i + 1, H', (I'.unpinned (pins := [])).weak hl (fun j v e => ?_), T.keep _ _ _ st7 fun b hb o e => (pin' b hb o e).1, fun b hb => ?_, w'⟩
        · rw [← hw8] at e
          exact (wipe_some e).1
        · obtain ⟨o, e, _⟩ := T.obj _ _ st7 b hb
          exact (pin' b hb o e).2
      refine thnF (pe.run _ s8 σ8 H8 _ I8 q8) fun z s10 ⟨yv, H10, I10, r10, acc, hD10, hz10, nx⟩ => ?_
      exact app_ok (X := X.blk s3 H3 scope ce fp) I10 hD10 hz10 r10 fun s11 I11 => fin I11 nx
    · -- it raises
      have z := q8 s3 H3 s3.heap.objs.size (cellsFrom (s3.heap.objs.size + 1) scope.names (cloFrom X.env.cells scope.names [])) fp (notedBy (model X.prog X.w) X.A ce (CompFails (model X.prog X.w) X.A X.xe ce))
      rw [hce] at z
      have z := z PassesOwn.looking tkb ([] ++ pinsAt fp s7.heap) s8 (I8.wish _)
      refine wpAny_mono z (fun v s9 ⟨_, _, _, _, f⟩ => f.elim) fun _ _ y => y
  exact codeAny_compStart_list loop (T.self X.A 0 _ _ _ st4 loop)
/-- e raises, an exception of the kind N -/
def EvXK (N : Bool) (X : Cx) (A : List C) (e : Expr) (x : Str) : Prop := ∀ I0 H0 σ I H, Rel X.K I0 H0 A σ I H → ∀ W : WX, TkK N X W → (∀ I' H', Grow I H I' H' → ∀ c, X.mg x = some (.ref c) → W (.ref c) none σ H') → ∀ Q : VK, Wx X e σ H Q
theorem evxK {A : List C} {e : Expr} {x : Str} (h : EvXK false X A e x) : EvX X A e x := h
theorem evx_lc (N : Bool) {α : Type} {A : List C} {elt tg iter : Expr} {scope : Scope} {pos : Pos} {own : List (Str × Nat)} {g : TG} {U : List C → PyData → List C → Prop} {src : List PyData} {y : Str} (xs : List α) (enc : α → PyData) (f : α → PyData) (n : Nat) (hn : n < xs.length)
    (hst : X.stack = X.env :: X.outer) (hf : X.env.frame = some X.env.locals) (hc : X.calm = true) (hN : X.N.Nodup) (hi : EvI X A tg iter src) (hsrc : src = xs.map enc) (ok : BlkOk X.N X.env.scope scope own)
    (hg : ∀ (s : Shared) (H : Hp) (C : Addr) (cl : List (Str × Addr)) (fp : List Addr), PG (X.blk s H scope (compEnvC scope cl C X.env) fp) tg g) (ht : TgOk X.K g U) (hw : TgW g (own.map (·.2))) (hz : xs.length < sizeLine)
    (hb : ∀ (i : Nat) (h : i < xs.length), i < n → ∃ A1, U (wipeA A (own.map (·.2))) (enc xs[i]) A1 ∧ EvB X scope A1 elt (f xs[i]))
    (hx : ∃ A1, U (wipeA A (own.map (·.2))) (enc xs[n]) A1 ∧ ∀ s H C cl fp xe, PassesOwn (model X.prog X.w) X.A (compEnvC scope cl C X.env) xe → EvXK N ((X.blk s H scope (compEnvC scope cl C X.env) fp).wish xe) A1 elt y)
    (hs : ∀ x, foldedSetIterable iter X.env x = pure x := by intro _; rfl) : EvXK N X A (.ListComp elt [⟨tg, iter, [], 0⟩] scope pos) y := fun I0 H0 σ I H rl W tk q Q => by
  subst hsrc
  obtain ⟨wi, hpi, hwi⟩ := hi
  intro pins s Iv
  rw [eval_ListComp]
  let te : TE := fun σ H Q => ∀ s H' C cl fp, Wx (X.blk s H' scope (compEnvC scope cl C X.env) fp) elt σ H Q
  refine lc_coreX N (te := te) hst hf tk hc hN Iv hpi ok hg (fun s H C cl fp => ⟨fun pins s' σ H' Q I h => h s H C cl fp pins s' I⟩) hs ?_
  refine hwi I0 H0 σ I H rl _ fun J I1 H1 g1 hJ D hD => ?_
  have r1 := rl.grow g1
  have n0 : H0 D = none := r1.gr.hh.free hD
  have far : ∀ i : Nat, isOwn (wipeA A (own.map (·.2)))[i]? → (wipe σ (own.map (·.2)))[i]? ≠ some (some (.ref D)) := fun i o => by
    obtain ⟨o1, o2⟩ := isOwn_wipe o
    rw [wipe_out o2]
    exact r1.far hD i o1
  refine ⟨fun i m H' => m = n - i ∧ i ≤ n ∧ ∃ I' acc, Same I1 I' ∧ Grow I H I' H' ∧ I' D = none ∧ H' D = some (.lst acc) ∧ DpAll X.K I' acc ((xs.take i).map f) ∧ Rel X.K I0 H0 (wipeA A (own.map (·.2))) (wipe σ (own.map (·.2))) I' H',
    ⟨n, by simp, Nat.zero_le _, I1, [], Same.refl _, g1.mut (g1.hh.free hD) (g1.ih.free hD), g1.ih.free hD, upd_same, .nil, rel_out (rel_wipe r1 _) n0 (g1.ih.free hD) far⟩, ?_⟩
  rintro i m H' ⟨rfl, hin, I', acc, s1, gg, nD, hacc, hda, r'⟩
  have hlx : i < xs.length := by omega
  have hxi : xs[i]? = some xs[i] := List.getElem?_eq_getElem _
  have hd : (xs.map enc)[i]? = some (enc xs[i]) := by rw [List.getElem?_map, hxi]; rfl
  obtain ⟨go, yl⟩ := hJ.1 i _ hd I' H' s1 r'.ih
  by_cases hlt : i < n
  · refine ⟨go, fun H2 => ∃ I2 acc, Same I1 I2 ∧ Grow I H I2 H2 ∧ I2 D = none ∧ H2 D = some (.lst acc) ∧ DpAll X.K I2 acc ((xs.take (i + 1)).map f) ∧ Rel X.K I0 H0 (wipeA A (own.map (·.2))) (wipe σ (own.map (·.2))) I2 H2,
      fun H2 ⟨I2, acc2, z⟩ => ⟨n - (i + 1), by omega, rfl, hlt, I2, acc2, z⟩, fun v H3 hy => ?_⟩
    obtain ⟨I3, g3, hv⟩ := yl v H3 hy
    obtain ⟨A1, hU, hE⟩ := hb i hlx hlt
    have r3 := r'.grow g3
    refine hw.run v σ H3 _ (ht.run I0 H0 _ I3 H3 _ _ A1 v hU r3 hv _ fun σ2 r2 => .inl ?_)
    have tk : (xs.take (i + 1)).map f = (xs.take i).map f ++ [f xs[i]] := by
      rw [List.take_add_one, hxi, Option.toList_some, List.map_append]
      rfl
    have nD3 := g3.nw D _ hacc nD
    intro s5 H5' C5 cl5 fp5
    refine hE s5 H5' C5 cl5 fp5 I0 H0 σ2 I3 H3 r2 _ fun y I5 H5 g5 hy => ?_
    have nD5 := g5.nw D _ (g3.hh _ _ hacc) nD3
    have g35 := g3.trans g5
    refine ⟨acc, g35.hh _ _ hacc, ?_, I5, acc ++ [y], s1.trans g35.ii, (gg.trans g35).mut (g1.hh.free hD) nD5, nD5, upd_same, ?_, ?_⟩
    · have e1 := dpAll_len hda
      rw [List.length_map, List.length_take] at e1
      omega
    · rw [tk]
      exact dpAll_append (dpAll_mono g35.ii hda) (dpAll_one hy)
    · exact rel_out (r'.grow g35) n0 nD5 far
  · have ein : i = n := by omega
    subst ein
    refine ⟨go, fun _ => False, fun _ z => z.elim, fun v H3 hy => ?_⟩
    obtain ⟨I3, g3, hv⟩ := yl v H3 hy
    obtain ⟨A1, hU, hE⟩ := hx
    have r3 := r'.grow g3
    refine hw.run v σ H3 _ (ht.run I0 H0 _ I3 H3 _ _ A1 v hU r3 hv _ fun σ2 r2 => .inr ?_)
    intro s5 H5' C5 cl5 fp5 xe hp tkx
    exact hE s5 H5' C5 cl5 fp5 xe hp I0 H0 σ2 I3 H3 r2 _ tkx (fun I4 H4 g4 c hc => q I4 H4 ((gg.trans g3).trans g4) c hc) _
end
section
variable {P : Program} {w : World} {K : PySem.W.Frag} {mg : Str → Option Value} {base : Heap} {N : List Str} {sc : Scope} {k : Nat}
variable {X : Cx} {e a b : Expr} {es : List Expr} {A : List C} {pos p p2 : Pos} {x y : Str}
/-- the context of a comprehension's block out of which an exception goes -/
theorem XF.blkX (hX : XF P w K mg base N sc k X) {scope : Scope} {s : Shared} {H : Hp} {C : Addr} {cl : List (Str × Addr)} {fp : List Addr} {xe : Value → Shared → Prop} (hp : PassesOwn (model X.prog X.w) X.A (compEnvC scope cl C X.env) xe) : XF P w K mg base N (relS scope sc) k ((X.blk s H scope (compEnvC scope cl C X.env) fp).wish xe) where
  eP := hX.eP
  eW := hX.eW
  eK := hX.eK
  eM := hX.eM
  eB := hX.eB
  eN := hX.eN
  eS := by rw [← hX.eS]; rfl
  calm := hX.calm
  nd := hX.nd
  room := hX.room
  pass := hp
variable (hX : XF P w K mg base N sc k X)
include hX
/-- [elt for x in iter], the element at n raises -/
theorem lcX (hT : XT X) (kN : Bool) {α : Type} {elt iter : Expr} {scope : Scope} {src : List PyData} (j : Nat) (xs : List α) (enc : α → PyData) (f : α → PyData) (n : Nat) (hn : n < xs.length) (hi : EvI X A (.Name x p) iter src) (hsrc : src = xs.map enc) (ok : blkC N sc scope [(x, j)] = true)
    (hN : N[j]? = some x) (hx : (relS scope sc).names.lookup x = some .local) (hz : xs.length < sizeLine) (hj : A[j]?.isSome = true)
    (hb : ∀ Y, XF P w K mg base N (relS scope sc) k Y → ∀ (i : Nat) (h : i < xs.length), i < n → Ev Y ((A.set j .un).set j (.dat (enc xs[i]))) elt (.dat (f xs[i])))
    (hr : ∀ Y, XF P w K mg base N (relS scope sc) k Y → EvXK kN Y ((A.set j .un).set j (.dat (enc xs[n]))) elt y)
    (hs : ∀ x, foldedSetIterable iter X.env x = pure x := by intro _; rfl) : EvXK kN X A (.ListComp elt [⟨.Name x p, iter, [], 0⟩] scope pos) y :=
  evx_lc kN (own := [(x, j)]) (g := gName j) (U := uName j) xs enc f n hn hT.stack hT.frame hX.calm hX.ndX hi hsrc (by rw [hX.eN, hX.eS]; exact blkOk_by ok) (fun s H C cl fp => tgB hX.blk j hN hx) tg_name tgw_name hz
    (fun i h hin => ⟨_, ⟨by show ((A.set j .un)[j]?).isSome = true; rw [List.getElem?_set_self (lt_of_some hj)]; rfl, rfl⟩, fun s H C cl fp => hb _ hX.blk i h hin⟩)
    ⟨_, ⟨by show ((A.set j .un)[j]?).isSome = true; rw [List.getElem?_set_self (lt_of_some hj)]; rfl, rfl⟩, fun s H C cl fp xe hp => hr _ (hX.blkX hp)⟩ hs
end
end LR

set_option Elab.async false
set_option linter.all false
set_option maxRecDepth 100000
set_option maxHeartbeats 4000000
/-! The layer LS, part i: defs and blocks that raise exceptions whose context is none (kind true), or any (kind false). -/
namespace LR
open PySem PySem.Spec PyProof.Rows L2
def FinK (kN : Bool) (X : Cx) (I0 H0 I : Hp) (D : Ends) : Out → Prop
  | .nx A => Fin X I0 H0 I D (.nx A)
  | .bk A => Fin X I0 H0 I D (.bk A)
  | .rt c => Fin X I0 H0 I D (.rt c)
  | .ex x A => ∃ W : WX, TkK kN X W ∧ ∀ σ' I' H', Same I I' → Rel X.K I0 H0 A σ' I' H' → ∀ c, X.mg x = some (.ref c) → W (.ref c) none σ' H'
def S1K (kN : Bool) (X : Cx) (A : List C) (st : Stmt) (o : Out) : Prop := ∀ I0 H0 σ I H, Rel X.K I0 H0 A σ I H → ∀ D : Ends, FinK kN X I0 H0 I D o → Ws X st D σ H
def SmK (kN : Bool) (X : Cx) (A : List C) (st : List Stmt) (o : Out) : Prop := ∀ I0 H0 σ I H, Rel X.K I0 H0 A σ I H → ∀ D : Ends, FinK kN X I0 H0 I D o → Wss X st D σ H
section
variable {kN : Bool} {X : Cx} {e a b : Expr} {es : List Expr} {σ : L2.St} {H : Hp} {A A1 A2 : List C} {pos p p2 : Pos} {x y : Str}
theorem FinK.same {I0 H0 I I1 : Hp} {D : Ends} {o : Out} (s : Same I I1) (f : FinK kN X I0 H0 I D o) : FinK kN X I0 H0 I1 D o := by
  cases o with
  | nx A => exact Fin.same (o := .nx A) s f
  | bk A => exact Fin.same (o := .bk A) s f
  | rt c => exact Fin.same (o := .rt c) s f
  | ex x A =>
    obtain ⟨W, tk, f⟩ := f
    exact ⟨W, tk, fun σ' I' H' s' r => f σ' I' H' (s.trans s') r⟩
theorem FinK.nxD {I0 H0 I : Hp} {D : Ends} {o : Out} {n : L2.St → Hp → Prop} (ho : ∀ A, o ≠ .nx A) (f : FinK kN X I0 H0 I D o) : FinK kN X I0 H0 I { D with nx := n } o := by
  cases o with
  | nx A => exact absurd rfl (ho A)
  | bk A => exact f
  | rt c => exact f
  | ex x A => exact f
theorem s1K_of {st : Stmt} {o : Out} (h : S1 X A st o) (ho : ∀ x A, o ≠ .ex x A) : S1K kN X A st o := fun I0 H0 σ I H rl D f => h I0 H0 σ I H rl D (by
  cases o with
  | nx A => exact f
  | bk A => exact f
  | rt c => exact f
  | ex x A => exact absurd rfl (ho x A))
theorem s1K_f {st : Stmt} {o : Out} (h : S1K false X A st o) : S1 X A st o := fun I0 H0 σ I H rl D f => h I0 H0 σ I H rl D (by
  cases o with
  | nx A => exact f
  | bk A => exact f
  | rt c => exact f
  | ex x A => exact f)
theorem smK_f {st : List Stmt} {o : Out} (h : SmK false X A st o) : Sm X A st o := fun I0 H0 σ I H rl D f => h I0 H0 σ I H rl D (by
  cases o with
  | nx A => exact f
  | bk A => exact f
  | rt c => exact f
  | ex x A => exact f)
theorem smK_cons {st : Stmt} {r : List Stmt} {o : Out} (h1 : S1 X A st (.nx A1)) (h2 : SmK kN X A1 r o) : SmK kN X A (st :: r) o := fun I0 H0 σ I H rl D f =>
  wss_of (pss_cons ws_ps wss_pss) (h1 I0 H0 σ I H rl _ fun σ' I' H' s rl' => h2 I0 H0 σ' I' H' rl' D (f.same s))
theorem smK_end {st : Stmt} {r : List Stmt} {o : Out} (h1 : S1K kN X A st o) (ho : o.isNx = false := by rfl) : SmK kN X A (st :: r) o := fun I0 H0 σ I H rl D f =>
  wss_of (pss_cons ws_ps wss_pss) (h1 I0 H0 σ I H rl _ (f.nxD fun A e => by rw [e] at ho; cases ho))
theorem smK_one {st : Stmt} {o : Out} (h1 : S1K kN X A st o) : SmK kN X A [st] o := fun I0 H0 σ I H rl D f => wss_of (pss_one ws_ps) (h1 I0 H0 σ I H rl D f)
theorem s1K_if {v : Bool} {s1 s2 : List Stmt} {o : Out} (hc : Et X A a v) (h1 : v = true → SmK kN X A s1 o) (h2 : v = false → SmK kN X A s2 o) : S1K kN X A (.If a s1 s2 pos) o := fun I0 H0 σ I H rl D f =>
  ws_of (ps_if wt_pe wss_pss wss_pss) (hc I0 H0 σ I H rl _ fun I1 H1 g => by
    cases v with
    | true => exact iteT (h1 rfl I0 H0 σ I1 H1 (rl.grow g) D (f.same g.ii))
    | false => exact iteF (h2 rfl I0 H0 σ I1 H1 (rl.grow g) D (f.same g.ii)))
theorem s1K_raise {m : Str} {j} {pos' : Pos} (hc : X.calm = true) (F : XC X.K X.mg x) (hg : Gl X x) (hs : X.stack = X.env :: X.outer) (hf : X.env.frame = some X.env.locals) (hdb : (x == ("__debug__" : Str)) = false := by decide) :
    S1K kN X A (.Raise (some (.Call (.Name x p) [.Constant (.str m) j p2] [] pos)) none pos') (.ex x A) := by
  cases kN with
  | false => exact s1_raise hc F hg hs hf hdb
  | true =>
    intro I0 H0 σ I H rl D f
    obtain ⟨W, tk, f⟩ := f
    obtain ⟨c, gC, q, kC, b, t⟩ := F.ex
    exact ws_of (L2N.ps_raise hc tk (L2N.pmk_own PySem.F.excBase_ValueError q gC kC (raises_own b t) hg hdb)) (f σ I H (Same.refl _) rl c gC)
theorem s1K_ret (h : EvXK kN X A e x) : S1K kN X A (.Return (some e) pos) (.ex x A) := fun I0 H0 σ I H rl D f => by
  obtain ⟨W, tk, f⟩ := f
  exact ws_of (ps_ret wx_pe) (h I0 H0 σ I H rl W tk (fun I1 H1 g c hc => f σ I1 H1 g.ii (rl.grow g) c hc) _)
theorem s1K_expr (h : EvXK kN X A e x) (hs : swapsWith e none pos.line X.env = pure false := by rfl) : S1K kN X A (.Expr e pos) (.ex x A) := fun I0 H0 σ I H rl D f => by
  obtain ⟨W, tk, f⟩ := f
  exact ws_of (ps_expr wx_pe hs) (h I0 H0 σ I H rl W tk (fun I1 H1 g c hc => f σ I1 H1 g.ii (rl.grow g) c hc) _)
theorem s1K_set (j : Nat) {pos' : Pos} (hN : X.N.Nodup) (hi : X.N[j]? = some y) (hx : L2.Loc X.env.scope y) (h : EvXK kN X A e x) (hs : swapsWith e (some (.Name y pos')) pos.line X.env = pure false := by rfl)
    (hf : X.fn y = true ∨ X.env.scope.names.lookup y = some .local := by first | exact .inl rfl | exact .inr rfl | assumption) : S1K kN X A (.Assign [.Name y pos'] e pos) (.ex x A) := fun I0 H0 σ I H rl D f => by
  obtain ⟨W, tk, f⟩ := f
  exact ws_of (ps_set hN hi hx wx_pe hs hf) (h I0 H0 σ I H rl W tk (fun I1 H1 g c hc => f σ I1 H1 g.ii (rl.grow g) c hc) _)
def EvAXK (kN : Bool) (X : Cx) (A : List C) (es : List Expr) (x : Str) : Prop := ∀ I0 H0 σ I H, Rel X.K I0 H0 A σ I H → ∀ W : WX, TkK kN X W → (∀ I' H', Grow I H I' H' → ∀ c, X.mg x = some (.ref c) → W (.ref c) none σ H') → ∀ Q : List V → Hp → Prop, Wa X es σ H Q
theorem eaxK_here (h : EvXK kN X A e x) (hs : starEach (e :: es) X.env = (false, eval e X.env) :: starEach es X.env := by rfl) : EvAXK kN X A (e :: es) x := fun I0 H0 σ I H rl W tk q Q =>
  wa_of (pa_cons wx_pe wa_pa hs) (h I0 H0 σ I H rl W tk q _)
theorem eaxK_next {d : PyData} (h1 : Ev X A e (.dat d)) (h : EvAXK kN X A es x) (hs : starEach (e :: es) X.env = (false, eval e X.env) :: starEach es X.env := by rfl) : EvAXK kN X A (e :: es) x := fun I0 H0 σ I H rl W tk q Q =>
  wa_of (pa_cons wx_pe wa_pa hs) (h1 I0 H0 σ I H rl _ fun v I1 H1 g1 hv => h I0 H0 σ I1 H1 (rl.grow g1) W tk (fun I2 H2 g2 c hc => q I2 H2 (g1.trans g2) c hc) _)
theorem evxK_tup {k} (h : EvAXK kN X A es x) : EvXK kN X A (.Tuple es k pos) x := fun I0 H0 σ I H rl W tk q Q =>
  wx_of (pe_tup wa_pa) (h I0 H0 σ I H rl W tk q _)
/-- tuple(e), e raises -/
theorem evxK_tuple (hg : Gl X "tuple") (hm : X.mg "tuple" = none) (h : EvXK kN X A e x) (hb : bootBuiltins "tuple" = some (.type "tuple") := by decide +kernel) (hs : starEach (e :: []) X.env = (false, eval e X.env) :: starEach [] X.env := by rfl) : EvXK kN X A (.Call (.Name "tuple" p) [e] [] pos) x := fun I0 H0 σ I H rl W tk q Q =>
  wx_of (pe_callTy call_tuple_of hg hm hb (pa_cons wx_pe pa_nil hs) (by decide) (by decide) hs rfl) (h I0 H0 σ I H rl W tk q _)
/-! loops that are left by an exception -/
theorem s1K_for {tg : Expr} {body : List Stmt} {src : List PyData} {g : TG} {U : List C → PyData → List C → Prop} (hp : PassesOwn (model X.prog X.w) X.A X.env X.xe) (hc : X.calm = true) (hi : EvI X A tg e src) (hg : PG X tg g) (ht : TgOk X.K g U)
    (inv : Nat → List C) (n : Nat) (hn : n < src.length) (h0 : LeA A (inv 0))
    (hb : ∀ (i : Nat) (d : PyData), i < n → src[i]? = some d → ∃ A1, U (inv i) d A1 ∧ Sm X A1 body (.nx (inv (i + 1))))
    (he : ∃ d A1, src[n]? = some d ∧ U (inv n) d A1 ∧ SmK kN X A1 body (.ex x A2)) (hs : ∀ x, foldedSetIterable e X.env x = pure x := by intro _; rfl) : S1K kN X A (.For tg e body [] pos) (.ex x A2) := fun I0 H0 σ I H rl D f => by
  obtain ⟨wi, hpi, hwi⟩ := hi
  refine ws_of (ps_for hp hc hpi hg wss_pss hs) (hwi I0 H0 σ I H rl _ fun J I1 H1 g1 hJ => ?_)
  have f1 := f.same g1.ii
  refine ⟨fun i m σ' H' => m = n - i ∧ i ≤ n ∧ ∃ I', Same I1 I' ∧ Rel X.K I0 H0 (inv i) σ' I' H', ⟨n, by simp, Nat.zero_le _, I1, Same.refl _, h0.rel (rl.grow g1)⟩, ?_⟩
  rintro i m σ' H' ⟨rfl, hin, I', s1, r'⟩
  by_cases hlt : i < n
  · have hd : src[i]? = some (src[i]'(by omega)) := List.getElem?_eq_getElem _
    obtain ⟨go, yl⟩ := hJ.1 i _ hd I' H' s1 r'.ih
    refine .inr ⟨go, fun σ2 H2 => ∃ I2, Same I1 I2 ∧ Rel X.K I0 H0 (inv (i + 1)) σ2 I2 H2, fun σ2 H2 ⟨I2, s2, r2⟩ => ⟨n - (i + 1), by omega, rfl, hlt, I2, s2, r2⟩, fun v H3 hy => ?_⟩
    obtain ⟨I3, g3, hv⟩ := yl v H3 hy
    obtain ⟨A1, hU, hS⟩ := hb i _ hlt hd
    refine ht.run I0 H0 σ' I3 H3 _ _ A1 v hU (r'.grow g3) hv _ fun σ2 r2 => ?_
    have q := hS I0 H0 σ2 I3 H3 r2 { D with nx := fun σ2 H2 => ∃ I2, Same I1 I2 ∧ Rel X.K I0 H0 (inv (i + 1)) σ2 I2 H2, ct := fun σ2 H2 => ∃ I2, Same I1 I2 ∧ Rel X.K I0 H0 (inv (i + 1)) σ2 I2 H2, bk := D.nx }
      fun σ4 I4 H4 s4 r4 => ⟨I4, (s1.trans g3.ii).trans s4, r4⟩
    exact q
  · have ein : i = n := by omega
    subst ein
    obtain ⟨d, A1, hd, hU, hS⟩ := he
    obtain ⟨go, yl⟩ := hJ.1 i _ hd I' H' s1 r'.ih
    refine .inr ⟨go, fun _ _ => False, fun _ _ h => h.elim, fun v H3 hy => ?_⟩
    obtain ⟨I3, g3, hv⟩ := yl v H3 hy
    refine ht.run I0 H0 σ' I3 H3 _ _ A1 v hU (r'.grow g3) hv _ fun σ2 r2 => ?_
    exact hS I0 H0 σ2 I3 H3 r2 { D with nx := fun _ _ => False, ct := fun _ _ => False, bk := D.nx } (f1.same (s1.trans g3.ii))
theorem s1K_while {c : Expr} {body : List Stmt} (hp : PassesOwn (model X.prog X.w) X.A X.env X.xe) (inv : Nat → List C) (n : Nat) (h0 : LeA A (inv 0))
    (hb : ∀ i, i < n → Et X (inv i) c true ∧ Sm X (inv i) body (.nx (inv (i + 1))))
    (hc : Et X (inv n) c true) (he : SmK kN X (inv n) body (.ex x A2)) : S1K kN X A (.While c body [] pos) (.ex x A2) := fun I0 H0 σ I H rl D f => by
  refine ws_of (ps_while hp wt_pe wss_pss) ?_
  refine ⟨fun m σ' H' => ∃ i, m = n - i ∧ i ≤ n ∧ ∃ I', Same I I' ∧ Rel X.K I0 H0 (inv i) σ' I' H', ⟨n, 0, by simp, Nat.zero_le _, I, Same.refl _, h0.rel rl⟩, ?_⟩
  rintro m σ' H' ⟨i, rfl, hin, I', s1, r'⟩
  by_cases hlt : i < n
  · obtain ⟨hc, hS⟩ := hb i hlt
    refine hc I0 H0 σ' I' H' r' _ fun I2 H2 g2 => ?_
    refine iteT ⟨fun σ2 H2 => ∃ I2, Same I I2 ∧ Rel X.K I0 H0 (inv (i + 1)) σ2 I2 H2, fun σ2 H2 ⟨I2, s2, r2⟩ => ⟨n - (i + 1), by omega, i + 1, rfl, hlt, I2, s2, r2⟩, ?_⟩
    exact hS I0 H0 σ' I2 H2 (r'.grow g2) _ fun σ4 I4 H4 s4 r4 => ⟨I4, (s1.trans g2.ii).trans s4, r4⟩
  · have ein : i = n := by omega
    subst ein
    refine hc I0 H0 σ' I' H' r' _ fun I2 H2 g2 => iteT ⟨fun _ _ => False, fun _ _ h => h.elim, ?_⟩
    exact he I0 H0 σ' I2 H2 (r'.grow g2) _ ((f.same s1).same g2.ii)
end
/-- a def that raises only exceptions whose context is none -/
structure FnN (P : Program) (w : World) (K : PySem.W.Frag) (mg : Str → Option Value) (base : Heap) (k : Nat) (x : Str) (ps : List Str) (R : List PyData → Res → Prop) : Prop where
  ex : ∃ f fd, FnOk P w K mg base (L2N.CX P w) k f fd ps (Spec K mg R) ∧ mg x = some (.ref f) ∧ PySem.W.keepIn K (.ref f) = true ∧ Binds K fd ps [] ∧ ∃ (oc : Value) (od : Option Addr) (osl : Array (Option Value)), K.lookup f = some ⟨oc, od, .func fd, osl⟩
def SmRK (X : Cx) (A : List C) (st : List Stmt) : Res → Prop
  | .ok c => Sm X A st (.rt c)
  | .ex x => ∃ A', SmK true X A st (.ex x A')
section
variable {P : Program} {w : World} {K : PySem.W.Frag} {mg : Str → Option Value} {base : Heap}
theorem cxN {outer : List Env} {H : Hp} {s : Shared} {E : XK} {u : Value} {s' : Shared} (h : L2N.CX P w outer H s E u s') : L2.CX P w outer H s E u s' := by
  obtain ⟨a, B, H', cls, d, e, fl, r⟩ := h
  exact ⟨a, B, H', cls, d, e, L2H.flyingZ_imp (fun o z => L2N.Zn.zc z) fl, r⟩
theorem FnN.fn {k : Nat} {x : Str} {ps : List Str} {R : List PyData → Res → Prop} (G : FnN P w K mg base k x ps R) : Fn P w K mg base k x ps R := by
  obtain ⟨f, fd, F, r⟩ := G.ex
  refine ⟨f, fd, ⟨F.len, fun A outer s H args us vs Q E hr he hb hv hs => codeAny_mono (F.run A outer s H args us vs Q E hr he hb hv hs) fun r s' h => ?_⟩, r⟩
  cases r with
  | ok v => cases v <;> exact h
  | error e => exact cxN h
theorem FnN.mono {j k : Nat} {x : Str} {ps : List Str} {R : List PyData → Res → Prop} (F : FnN P w K mg base j x ps R) (h : j ≤ k) : FnN P w K mg base k x ps R := by
  obtain ⟨f, fd, F, a, b, c⟩ := F.ex
  exact ⟨f, fd, F.mono h, a, b, c⟩
theorem fnN {x qual : Str} {st : Stmt} {f : Addr} {fd : FuncData} {N ps : List Str} {k : Nat} {R : List PyData → Res → Prop} (F : Fun K x qual st f fd) (hm : mg x = some (.ref f)) (b : Binds K fd ps []) (S : FnScope N ps (defScope st)) (hR : ∀ ds r, R ds r → ds.length = ps.length)
    (hbody : ∀ X, XF P w K mg base N (defScope st) k X → XT X → ∀ ds r, R ds r → SmRK X (A0 N ds) (defBody st) r) : FnN P w K mg base (k + 1) x ps R := by
  have hlk : ∃ (oc : Value) (od : Option Addr) (osl : Array (Option Value)), K.lookup f = some ⟨oc, od, .func fd, osl⟩ := by
    obtain ⟨oc, od, _, _, _, _, _, _, osl, _, h, _⟩ := F.ex
    exact ⟨oc, od, osl, h⟩
  have kp := F.kp
  refine ⟨f, fd, ?_, hm, kp, b, hlk⟩
  obtain ⟨oc, od, kV, doc, pm, an, cdv, ct, osl, rfl, lk, hcd⟩ := F.ex
  refine fn_of (CX := L2N.CX P w) lk hcd S (fun vs H Q E ⟨I, ds, r, _, hd, hr, _⟩ => by rw [dpAll_len hd, hR ds r hr]) fun A outer s H vs Q E hr ⟨I, ds, r, si, hd, h, q⟩ => ?_
  refine ⟨_, wss_pss, ?_⟩
  have z := hbody (cxOf (L2N.CX P w) P w K mg base N qual (defScope st) f cdv A outer s H E) ⟨rfl, rfl, rfl, rfl, rfl, rfl, rfl, rfl, S.nd, hr, passes_of rfl⟩ ⟨rfl, rfl, fun _ => rfl⟩ ds r h
  cases r with
  | ok c => exact z I H (start N vs) I H (rel_start si hd) _ fun v I' H' _ g hv => q v I' H' g hv
  | ex y =>
    obtain ⟨A', z⟩ := z
    have tk : L2N.Takes (cxOf (L2N.CX P w) P w K mg base N qual (defScope st) f cdv A outer s H E) (fun cls d _ H => E cls d H) := L2N.takes_of rfl rfl rfl rfl
    exact z I H (start N vs) I H (rel_start si hd) _ ⟨_, tk, fun σ' I' H' _ r c hc => q I' H' r.gr c hc⟩
end
section
variable {P : Program} {w : World} {K : PySem.W.Frag} {mg : Str → Option Value} {base : Heap} {N : List Str} {sc : Scope} {k : Nat}
variable {kN : Bool} {X : Cx} {e a b : Expr} {es : List Expr} {A A1 A2 : List C} {pos p p2 : Pos} {x y : Str}
variable (hX : XF P w K mg base N sc k X)
include hX
theorem XF.fnXN {j : Nat} {y : Str} {ps : List Str} {R : List PyData → Res → Prop} (G : FnN P w K mg base j y ps R) : FnN X.prog X.w X.K X.mg X.base j y ps R := by
  rw [hX.eP, hX.eW, hX.eK, hX.eM, hX.eB]; exact G
theorem callXN {j : Nat} {ps : List Str} {R : List PyData → Res → Prop} {ds : List PyData} {y : Str} (G : FnN P w K mg base j x ps R) (hj : j ≤ k) (hg : GlS sc x) (ha : EvA X A (e :: es) ds) (h : R ds (.ex y)) (hdb : (x == ("__debug__" : Str)) = false)
    (he : starEach (e :: es) X.env = (false, eval e X.env) :: starEach es X.env := by rfl) (hpl : (backTo pos (starEach es X.env)).any (·.1) = false := by rfl) : EvXK kN X A (.Call (.Name x p) (e :: es) [] pos) y := by
  cases kN with
  | false => exact callXF hX G.fn hj hg ha h hdb he hpl
  | true =>
    intro I0 H0 σ I H rl W tk q Q
    obtain ⟨f, fd, F, hm, hk, hb, _⟩ := (hX.fnXN G).ex
    have tk : L2N.Takes X W := tk
    exact wx_of (pe_callS F (hX.room.mono hj) (hX.gl hg) hm hk hb (fun σ => L2N.passAt tk σ) wa_pa hdb he hpl) (ha I0 H0 σ I H rl _ fun vs I1 H1 g hv => ⟨I1, ds, .ex y, g.ih, hv, h, fun I2 H2 g2 c hc => q I2 H2 (g.trans g2) c hc⟩)
theorem tupleXK (hg : GlS sc "tuple") (hm : mg "tuple" = none) (h : EvXK kN X A e x) (hs : starEach (e :: []) X.env = (false, eval e X.env) :: starEach [] X.env := by rfl) : EvXK kN X A (.Call (.Name "tuple" p) [e] [] pos) x :=
  evxK_tuple (hX.gl hg) (by rw [hX.eM]; exact hm) h (hs := hs)
theorem raiseK (hT : XT X) {j} {m : Str} {pos' : Pos} (F : XC K mg x) (hg : GlS sc x) (hdb : (x == ("__debug__" : Str)) = false) : S1K kN X A (.Raise (some (.Call (.Name x p) [.Constant (.str m) j p2] [] pos)) none pos') (.ex x A) :=
  s1K_raise hX.calm (by rw [hX.eK, hX.eM]; exact F) (hX.gl hg) hT.stack hT.frame hdb
theorem forLxK {α : Type} {body : List Stmt} {tg : Expr} {src : List PyData} (j : Nat) (xs : List α) (enc : α → PyData) (inv : Nat → List C) (n : Nat) (hn : n < xs.length) (hi : EvI X A tg e src) (hsrc : src = xs.map enc) (hg : PG X tg (gName j)) (h0 : LeA A (inv 0)) (hj : ∀ i, (inv i)[j]?.isSome = true)
    (hb : ∀ (i : Nat) (h : i < xs.length), i < n → Sm X ((inv i).set j (.dat (enc xs[i]))) body (.nx (inv (i + 1)))) (hx : SmK kN X ((inv n).set j (.dat (enc xs[n]))) body (.ex x A2)) (hs : ∀ x, foldedSetIterable e X.env x = pure x := by intro _; rfl) : S1K kN X A (.For tg e body [] pos) (.ex x A2) := by
  subst hsrc
  refine s1K_for hX.pass hX.calm hi hg tg_name inv n (by simpa using hn) h0 (fun i d hi hd => ?_) ⟨_, _, ?_, ⟨hj n, rfl⟩, hx⟩ hs
  · have hi2 : i < xs.length := by omega
    rw [List.getElem?_map, List.getElem?_eq_getElem hi2] at hd
    cases hd
    exact ⟨_, ⟨hj i, rfl⟩, hb i hi2 hi⟩
  · rw [List.getElem?_map, List.getElem?_eq_getElem hn]; rfl
theorem whileFxK {c : Expr} {body : List Stmt} (inv : Nat → List C) (n : Nat) (h0 : LeA A (inv 0)) (hb : ∀ i, i < n → Et X (inv i) c true ∧ Sm X (inv i) body (.nx (inv (i + 1)))) (hc : Et X (inv n) c true) (hx : SmK kN X (inv n) body (.ex x A2)) : S1K kN X A (.While c body [] pos) (.ex x A2) :=
  s1K_while hX.pass inv n h0 hb hc hx
end
end LR

namespace W
open PySem PySem.Spec PyProof.Rows L2 LR
def topS (i : Nat) : Stmt := PySem.Challenge.pw_longrounds_k12_programs_refused.main.body.getD i (.Pass ⟨0, 0, 0, 0⟩)
abbrev s_is_whole : Stmt := topS 9
theorem sc_is_whole : FnScope ["thing"] ["thing"] (defScope s_is_whole) := ⟨rfl, rfl, rfl, by decide +kernel, rfl, by decide +kernel, by decide +kernel⟩
abbrev s_prime : Stmt := topS 10
theorem sc_prime : FnScope ["thing", "by"] ["thing"] (defScope s_prime) := ⟨rfl, rfl, rfl, by decide +kernel, rfl, by decide +kernel, by decide +kernel⟩
abbrev s_on : Stmt := topS 11
theorem sc_on : FnScope ["P", "n"] ["P", "n"] (defScope s_on) := ⟨rfl, rfl, rfl, by decide +kernel, rfl, by decide +kernel, by decide +kernel⟩
abbrev s_items_in : Stmt := topS 13
theorem sc_items_in : FnScope ["items", "many", "item"] ["items"] (defScope s_items_in) := ⟨rfl, rfl, rfl, by decide +kernel, rfl, by decide +kernel, by decide +kernel⟩
abbrev s_agains_deep : Stmt := topS 14
theorem sc_agains_deep : FnScope ["items", "deepest", "item"] ["items"] (defScope s_agains_deep) := ⟨rfl, rfl, rfl, by decide +kernel, rfl, by decide +kernel, by decide +kernel⟩
abbrev s_item_of : Stmt := topS 15
theorem sc_item_of : FnScope ["P", "many", "item", "n"] ["P", "many", "item"] (defScope s_item_of) := ⟨rfl, rfl, rfl, by decide +kernel, rfl, by decide +kernel, by decide +kernel⟩
abbrev s_items_of : Stmt := topS 16
theorem sc_items_of : FnScope ["P", "many", "items", "item"] ["P", "many", "items"] (defScope s_items_of) := ⟨rfl, rfl, rfl, by decide +kernel, rfl, by decide +kernel, by decide +kernel⟩
abbrev s_program : Stmt := topS 17
theorem sc_program : FnScope ["P", "many", "items"] ["P", "many", "items"] (defScope s_program) := ⟨rfl, rfl, rfl, by decide +kernel, rfl, by decide +kernel, by decide +kernel⟩
abbrev s__law_cell : Stmt := topS 19
theorem sc__law_cell : FnScope ["script", "k"] ["script", "k"] (defScope s__law_cell) := ⟨rfl, rfl, rfl, by decide +kernel, rfl, by decide +kernel, by decide +kernel⟩
abbrev s__law_prime : Stmt := topS 20
theorem sc__law_prime : FnScope ["cell", "n", "by"] ["cell"] (defScope s__law_prime) := ⟨rfl, rfl, rfl, by decide +kernel, rfl, by decide +kernel, by decide +kernel⟩
abbrev s__law_digits : Stmt := topS 21
theorem sc__law_digits : FnScope ["cell", "P", "size", "out", "k"] ["cell", "P", "size"] (defScope s__law_digits) := ⟨rfl, rfl, rfl, by decide +kernel, rfl, by decide +kernel, by decide +kernel⟩
abbrev s__law_count : Stmt := topS 22
theorem sc__law_count : FnScope ["cell"] ["cell"] (defScope s__law_count) := ⟨rfl, rfl, rfl, by decide +kernel, rfl, by decide +kernel, by decide +kernel⟩
abbrev s__law_set : Stmt := topS 23
theorem sc__law_set : FnScope ["cell", "more", "P", "many", "x", "form"] ["cell", "more", "P", "many"] (defScope s__law_set) := ⟨rfl, rfl, rfl, by decide +kernel, rfl, by decide +kernel, by decide +kernel⟩
abbrev s__law_items : Stmt := topS 24
theorem sc__law_items : FnScope ["cells", "P", "many", "agains", "items", "deep", "k", "few", "level"] ["cells", "P", "many", "agains"] (defScope s__law_items) := ⟨rfl, rfl, rfl, by decide +kernel, rfl, by decide +kernel, by decide +kernel⟩
abbrev s__law_alike : Stmt := topS 25
theorem sc__law_alike : FnScope ["found", "due", "k"] ["found", "due"] (defScope s__law_alike) := ⟨rfl, rfl, rfl, by decide +kernel, rfl, by decide +kernel, by decide +kernel⟩
abbrev s__law_bent : Stmt := topS 26
theorem sc__law_bent : FnScope ["cell", "many", "far", "form", "x"] ["cell", "many"] (defScope s__law_bent) := ⟨rfl, rfl, rfl, by decide +kernel, rfl, by decide +kernel, by decide +kernel⟩
abbrev s__law_with : Stmt := topS 27
theorem sc__law_with : FnScope ["items", "place", "cell", "bent"] ["items", "place", "cell", "bent"] (defScope s__law_with) := ⟨rfl, rfl, rfl, by decide +kernel, rfl, by decide +kernel, by decide +kernel⟩
abbrev s_law : Stmt := topS 28
theorem sc_law : FnScope ["script", "P", "many", "way", "more", "form", "items", "due", "boxes", "handed", "bent", "size", "found", "marks", "other", "e"] ["script"] (defScope s_law) := ⟨rfl, rfl, rfl, by decide +kernel, rfl, by decide +kernel, by decide +kernel⟩
end W
open PySem PySem.Spec PyProof.Rows L2 LR
local macro_rules | `(tactic| wtm_at "dk") => `(tactic| decide +kernel)
local macro_rules | `(tactic| wtm_at "ra") => `(tactic| with_reducible assumption)
local macro_rules | `(tactic| wtm_at "sd") => `(tactic| first | (with_reducible assumption) | omega | (simp only [List.length_map, List.length_range, List.length_append, List.length_cons, List.length_nil, List.length_replicate, List.length_take, List.length_drop] at *; omega))
local macro_rules | `(tactic| wtm_at "sz") => `(tactic| first | decide +kernel | (simp only [sizeLine_eq, List.length_map, List.length_range, List.length_append, List.length_cons, List.length_nil, List.length_replicate, List.length_take, List.length_drop] at *; omega))
local macro_rules | `(tactic| wtm_at "seqd") => `(tactic| first | exact SeqD.tup | exact SeqD.lst)
local macro_rules | `(tactic| wtm_at "seq") => `(tactic| first
  | (wtm_at "own")
  | (refine' evs_new ?a_m1; (case' a_m1 => wtm_at "evl"))
  | (refine' evs_dat ?a_m2 ?r_m2; (case' a_m2 => wtm_at "ev"); (case' r_m2 => wtm_at "seqd"))
  | (refine' evs_new ?a_m3; (case' a_m3 => wtm_at "ev")))
local macro_rules | `(tactic| wtm_at "evl") => `(tactic| first
  | (refine' ev_lst ?a_m4 ?sd_m4; (case' a_m4 => wtm_at "args"); (case' sd_m4 => wtm_at "sz"))
  | ((with_reducible refine' ev_takeL ?sa_n70 ?sb_n70 ?sc_n70); (case' sa_n70 => wtm_at "seq"); (case' sb_n70 => wtm_at "ev"); (case' sc_n70 => try (wtm_at "sd")))
  | ((with_reducible refine' ev_dropL ?sa_n71 ?sb_n71 ?sc_n71); (case' sa_n71 => wtm_at "seq"); (case' sb_n71 => wtm_at "ev"); (case' sc_n71 => try (wtm_at "sd")))
  | ((with_reducible refine' ev_midL ?sa_n72 ?sb_n72 ?sc_n72 ?sd_n72 ?se_n72); (case' sa_n72 => wtm_at "seq"); (case' sb_n72 => wtm_at "ev"); (case' sc_n72 => wtm_at "ev"); (case' sd_n72 => try (wtm_at "sd")); (case' se_n72 => try (wtm_at "sd")))
  | (refine' ev_slL ?a_m5 ?l_m5 ?u_m5; (case' a_m5 => wtm_at "seq"); (case' l_m5 => wtm_at "part"); (case' u_m5 => wtm_at "part"))
  | ((with_reducible show Ev _ _ (.Call (.Name "list" _) _ _ _) _); wtm_at "call"))
local macro_rules | `(tactic| wtm_at "bin") => `(tactic| first
  | exact BinD.add | exact BinD.sub
  | (refine' BinD.mul ?sd_m6; try (case sd_m6 => (first | (with_reducible assumption) | exact Or.inl (by omega) | exact Or.inr (by omega))))
  | (refine' BinD.mod ?sd_m7; try (case sd_m7 => wtm_at "sd"))
  | (refine' BinD.div ?sd_m8 ?sd2_m8; try (case sd_m8 => wtm_at "sd"); try (case sd2_m8 => wtm_at "sd"))
  | (refine' BinD.pow ?sd_m9; try (case sd_m9 => (first | decide | exact ⟨by decide, by decide, by decide⟩ | (wtm_at "sd"))))
  | (with_reducible refine' BinD.catI ?sda; try (case sda => wtm_at "sz"))
  | (with_reducible refine' BinD.catI1 ?sdb; try (case sdb => wtm_at "sz"))
  | (with_reducible refine' BinD.cat1I ?sdc; try (case sdc => wtm_at "sz"))
  | (with_reducible refine' BinD.catT ?sdd; try (case sdd => wtm_at "sz"))
  | (with_reducible refine' BinD.catT1 ?sde; try (case sde => wtm_at "sz"))
  | (refine' BinD.cat ?sd_m10; try (case sd_m10 => wtm_at "sz"))
  | (refine' BinD.str ?sd_m11; try (case sd_m11 => wtm_at "sz")))
local macro_rules | `(tactic| wtm_at "cmp") => `(tactic| first
  | exact CmpD.lt | exact CmpD.le | exact CmpD.gt | exact CmpD.ge | exact CmpD.eqI | exact CmpD.neI | exact CmpD.eqS | exact CmpD.neS)
local macro_rules | `(tactic| wtm_at "cmpr") => `(tactic| first
  | (refine' cmpR_D ?cr1; (case' cr1 => wtm_at "cmp"))
  | (with_reducible exact cmpR_isN) | (with_reducible exact cmpR_notN)
  | exact cmpEqI (by assumption)
  | exact cmpNeI (by assumption)
  | exact cmpEqT (by assumption)
  | exact cmpNeT (by assumption))
local macro_rules | `(tactic| wtm_at "ix") => `(tactic| first
  | (with_reducible assumption)
  | (with_reducible refine' ixLastI ?sdl; try (case sdl => wtm_at "sd"))
  | (with_reducible refine' IxD.nIn ?sd_m12; try (case sd_m12 => wtm_at "sd"))
  | (with_reducible refine' IxD.nTn ?sd_m13; try (case sd_m13 => wtm_at "sd"))
  | (with_reducible refine' IxD.nI ?sd_m14 ?sd2_m14; try (case sd_m14 => wtm_at "sd"); try (case sd2_m14 => wtm_at "sd"))
  | (with_reducible refine' IxD.nT ?sd_m15 ?sd2_m15; try (case sd_m15 => wtm_at "sd"); try (case sd2_m15 => wtm_at "sd"))
  | (with_reducible refine' IxD.nS ?sd_m16 ?sd2_m16; try (case sd_m16 => wtm_at "sd"); try (case sd2_m16 => wtm_at "sd"))
  | (with_reducible refine' IxD.nL2 ?sd_m17 ?sd2_m17; try (case sd_m17 => wtm_at "sd"); try (case sd2_m17 => wtm_at "sd"))
  | (with_reducible refine' IxD.nL3 ?sd_m18 ?sd2_m18; try (case sd_m18 => wtm_at "sd"); try (case sd2_m18 => wtm_at "sd"))
  | (with_reducible refine' IxD.nL4 ?sd_m19 ?sd2_m19; try (case sd_m19 => wtm_at "sd"); try (case sd2_m19 => wtm_at "sd"))
  | (with_reducible refine' IxD.nTTn ?sdt; try (case sdt => wtm_at "sd"))
  | (with_reducible refine' IxD.nTT ?sdu ?sdv; try (case sdu => wtm_at "sd"); try (case sdv => wtm_at "sd"))
  | exact IxD.lit rfl)
local macro_rules | `(tactic| wtm_at "args") => `(tactic| first
  | exact ea_nil
  | (refine' ea_cons ?a_m20 ?b_m20; (case' a_m20 => wtm_at "ev"); (case' b_m20 => wtm_at "args")))
local macro_rules | `(tactic| wtm_at "R") => `(tactic| (constructor; all_goals try (wtm_at "sd")))
local macro_rules | `(tactic| wtm_at "part") => `(tactic| first | exact evo_none | (refine' evo_some ?pt1; (case' pt1 => wtm_at "ev")))
local macro_rules | `(tactic| wtm_at "call") => `(tactic| first
  | ((with_reducible show Ev _ _ (.Call (.Name "len" _) _ _ _) _); refine' lenF ?q1_m21 ?q2_m21 ?q3_m21 ?a_m21; (case' q1_m21 => assumption); (case' q2_m21 => decide +kernel); (case' q3_m21 => with_reducible assumption); (case' a_m21 => wtm_at "seq"))
  | ((with_reducible show Ev _ _ (.Call (.Name "tuple" _) _ _ _) _); refine' tupleF ?q1_m22 ?q2_m22 ?q3_m22 ?a_m22; (case' q1_m22 => assumption); (case' q2_m22 => decide +kernel); (case' q3_m22 => with_reducible assumption); (case' a_m22 => wtm_at "seq"))
  | ((with_reducible show Ev _ _ (.Call (.Name "list" _) _ _ _) _); refine' listF ?q1_m23 ?q2_m23 ?q3_m23 ?a_m23; (case' q1_m23 => assumption); (case' q2_m23 => decide +kernel); (case' q3_m23 => with_reducible assumption); (case' a_m23 => wtm_at "seq"))
  | ((with_reducible show Ev _ _ (.Call (.Name "int" _) _ _ _) _); refine' intBF ?q1_m24 ?q2_m24 ?q3_m24 ?a_m24; (case' q1_m24 => assumption); (case' q2_m24 => decide +kernel); (case' q3_m24 => with_reducible assumption); (case' a_m24 => wtm_at "ev"))
  | ((with_reducible show Ev _ _ (.Call (.Name "max" _) [_, _] _ _) _); refine' max2F ?q1_m25 ?q2_m25 ?q3_m25 ?a_m25; (case' q1_m25 => assumption); (case' q2_m25 => decide +kernel); (case' q3_m25 => with_reducible assumption); (case' a_m25 => wtm_at "args"))
  | ((with_reducible show Ev _ _ (.Call (.Name "min" _) [_, _] _ _) _); refine' min2F ?q1_m26 ?q2_m26 ?q3_m26 ?a_m26; (case' q1_m26 => assumption); (case' q2_m26 => decide +kernel); (case' q3_m26 => with_reducible assumption); (case' a_m26 => wtm_at "args"))
  | ((with_reducible show Ev _ _ (.Call (.Name "isinstance" _) _ _ _) _); refine' isiF ?q1_m27 ?q2_m27 ?q3_m27 ?a_m27 ?q4_m27 ?q5_m27 ?q6_m27 ?q7_m27 ?q8_m27 ?q9_m27; (case' q1_m27 => assumption); (case' a_m27 => wtm_at "ev"); (case' q2_m27 => decide +kernel); (case' q3_m27 => with_reducible assumption); (case' q4_m27 => decide +kernel); (case' q5_m27 => with_reducible assumption); (case' q6_m27 => decide +kernel); (case' q7_m27 => (dsimp only [tyD]; first | (show _ = some true; decide +kernel) | (show _ = some false; decide +kernel))); (case' q8_m27 => decide); (case' q9_m27 => decide))
  | (refine' callF ?q1_m28 ?q2_m28 ?q3_m28 ?q4_m28 ?a_m28 ?r_m28 ?q5_m28; (case' q1_m28 => assumption); (case' q2_m28 => with_reducible assumption); (case' q3_m28 => decide); (case' q4_m28 => decide +kernel); (case' q5_m28 => decide +kernel); (case' a_m28 => wtm_at "args"); (case' r_m28 => wtm_at "R")))
local macro_rules | `(tactic| wtm_at "bools") => `(tactic| first
  | (refine' ev_one ?a_m29; (case' a_m29 => wtm_at "ev"))
  | (refine' ev_and ?a_m30 (fun _ => ?b_m30); (case' a_m30 => wtm_at "ev"); (case' b_m30 => wtm_at "bools"))
  | (refine' ev_or ?a_m31 (fun _ => ?b_m31); (case' a_m31 => wtm_at "ev"); (case' b_m31 => wtm_at "bools")))
local macro_rules | `(tactic| wtm_at "evL") => `(tactic| first
  | (wtm_at "ownl")
  | (refine' evl_new ?eL1; (case' eL1 => first | (wtm_at "evl") | (wtm_at "ev"))))
local macro_rules | `(tactic| wtm_at "ev") => `(tactic| first
  | (wtm_at "nm")
  | exact ev_int
  | ((with_reducible show Ev _ _ (.BinOp (.Tuple _ _ _) .Mult _ _) _); refine' ev_repI ?rp1 ?rp2 ?rp3 ?rp4; (case' rp1 => wtm_at "ev"); (case' rp2 => wtm_at "ev"); (case' rp3 => try (wtm_at "sd")); (case' rp4 => try (wtm_at "sd")))
  | ((with_reducible show Ev _ _ (.BinOp (.List _ _) .Mult _ _) _); refine' ev_repLI ?rq1 ?rq2 ?rq3 ?rq4; (case' rq1 => wtm_at "evL"); (case' rq2 => wtm_at "ev"); (case' rq3 => try (wtm_at "sd")); (case' rq4 => try (wtm_at "sd")))
  | (refine' ev_bin ?a_m32 ?b_m32 ?r_m32; (case' a_m32 => wtm_at "ev"); (case' b_m32 => wtm_at "ev"); (case' r_m32 => wtm_at "bin"))
  | (refine' ev_cmpR ?cm1 ?cm2 ?cm3; (case' cm1 => wtm_at "ev"); (case' cm2 => wtm_at "ev"); (case' cm3 => wtm_at "cmpr"))
  | (wtm_at "call")
  | ((with_reducible show Ev _ _ (.BinOp _ .Add _ _) _); refine' ev_catL ?cl1 ?cl2 ?cl3; (case' cl1 => wtm_at "evL"); (case' cl2 => wtm_at "evL"); (case' cl3 => try (wtm_at "sz")))
  | ((with_reducible refine' ev_takeL ?sa_m70 ?sb_m70 ?sc_m70); (case' sa_m70 => wtm_at "seq"); (case' sb_m70 => wtm_at "ev"); (case' sc_m70 => try (wtm_at "sd")))
  | ((with_reducible refine' ev_dropL ?sa_m71 ?sb_m71 ?sc_m71); (case' sa_m71 => wtm_at "seq"); (case' sb_m71 => wtm_at "ev"); (case' sc_m71 => try (wtm_at "sd")))
  | ((with_reducible refine' ev_midL ?sa_m72 ?sb_m72 ?sc_m72 ?sd_m72 ?se_m72); (case' sa_m72 => wtm_at "seq"); (case' sb_m72 => wtm_at "ev"); (case' sc_m72 => wtm_at "ev"); (case' sd_m72 => try (wtm_at "sd")); (case' se_m72 => try (wtm_at "sd")))
  | ((with_reducible refine' ev_takeT ?sa_m73 ?sb_m73 ?sc_m73); (case' sa_m73 => wtm_at "ev"); (case' sb_m73 => wtm_at "ev"); (case' sc_m73 => try (wtm_at "sd")))
  | ((with_reducible refine' ev_dropT ?sa_m74 ?sb_m74 ?sc_m74); (case' sa_m74 => wtm_at "ev"); (case' sb_m74 => wtm_at "ev"); (case' sc_m74 => try (wtm_at "sd")))
  | ((with_reducible refine' ev_midT ?sa_m75 ?sb_m75 ?sc_m75 ?sd_m75 ?se_m75); (case' sa_m75 => wtm_at "ev"); (case' sb_m75 => wtm_at "ev"); (case' sc_m75 => wtm_at "ev"); (case' sd_m75 => try (wtm_at "sd")); (case' se_m75 => try (wtm_at "sd")))
  | (refine' ev_slL ?a_m34 ?l_m34 ?u_m34; (case' a_m34 => wtm_at "seq"); (case' l_m34 => wtm_at "part"); (case' u_m34 => wtm_at "part"))
  | (refine' ev_slT ?a_m35 ?l_m35 ?u_m35; (case' a_m35 => wtm_at "ev"); (case' l_m35 => wtm_at "part"); (case' u_m35 => wtm_at "part"))
  | (refine' ev_atD ?a_m36 ?b_m36 ?r_m36 ?px_m36; (case' px_m36 => exact fun _ _ => rfl); (case' a_m36 => wtm_at "seq"); (case' b_m36 => wtm_at "ev"); (case' r_m36 => wtm_at "ix"))
  | (refine' ev_tup ?a_m37 ?sd_m37; (case' a_m37 => wtm_at "args"); (case' sd_m37 => wtm_at "sz"))
  | (refine' ev_lst ?a_m38 ?sd_m38; (case' a_m38 => wtm_at "args"); (case' sd_m38 => wtm_at "sz"))
  | exact ev_str
  | exact ev_bl
  | exact ev_non
  | (refine' ev_neg ?a_m39; (case' a_m39 => wtm_at "ev"))
  | (refine' ev_not ?a_m40; (case' a_m40 => wtm_at "ev"))
  | (refine' ev_chainR ?a_m41 ?b_m41 ?c_m41 (cmpR_D ?d_m41) (cmpR_D ?f_m41); (case' a_m41 => wtm_at "ev"); (case' b_m41 => wtm_at "ev"); (case' c_m41 => wtm_at "ev"); (case' d_m41 => wtm_at "cmp"); (case' f_m41 => wtm_at "cmp"))
  | (wtm_at "bools"))
local macro_rules | `(tactic| wtm_at "tw") => `(tactic| first
  | (refine' ew_and1 ?a_m42; (case' a_m42 => wtm_at "test"))
  | (refine' ew_or1 ?a_m43; (case' a_m43 => wtm_at "test"))
  | (refine' ew_and ?a_m44 (fun _ => ?b_m44); (case' a_m44 => wtm_at "test"); (case' b_m44 => wtm_at "tw"))
  | (refine' ew_or ?a_m45 (fun _ => ?b_m45); (case' a_m45 => wtm_at "test"); (case' b_m45 => wtm_at "tw")))
local macro_rules | `(tactic| wtm_at "test") => `(tactic| first
  | (refine' ew_et ?a_m46; (case' a_m46 => wtm_at "tw"))
  | (refine' et_not ?a_m47; (case' a_m47 => wtm_at "test"))
  | (refine' et_cmpR ?ct1 ?ct2 ?ct3; (case' ct1 => wtm_at "ev"); (case' ct2 => wtm_at "ev"); (case' ct3 => wtm_at "cmpr"))
  | (refine' et_chain ?a_m49 ?b_m49 ?c_m49 (cmpR_D ?d_m49) (cmpR_D ?f_m49); (case' a_m49 => wtm_at "ev"); (case' b_m49 => wtm_at "ev"); (case' c_m49 => wtm_at "ev"); (case' d_m49 => wtm_at "cmp"); (case' f_m49 => wtm_at "cmp"))
  | (refine' et_ev ?a_m50; (case' a_m50 => wtm_at "ev"))
  | (refine' et_seq ?a_m51; (case' a_m51 => wtm_at "seq")))
local macro_rules | `(tactic| wtm_at "lec") => `(tactic| first
  | exact LeC.un
  | (with_reducible exact LeC.refl)
  | (refine' LeC.int ?sd_m52; try (case sd_m52 => (first | (wtm_at "sd") | rfl)))
  | (refine' LeC.str ?sd_m53; try (case sd_m53 => (first | (wtm_at "sd") | rfl)))
  | (refine' LeC.tupI ?sd_m54; try (case sd_m54 => (first | (wtm_at "sd") | rfl)))
  | (refine' LeC.tup ?sd_m55; try (case sd_m55 => (first | (wtm_at "sd") | rfl)))
  | (refine' LeC.dat ?sd_m56; try (case sd_m56 => (first | (wtm_at "sd") | rfl)))
  | (refine' LeC.own ?sd_m57; try (case sd_m57 => (first | (wtm_at "sd") | rfl))))
local macro_rules | `(tactic| wtm_at "le") => `(tactic| first
  | exact LeA.nil
  | (refine' LeA.cons ?a_m58 ?b_m58; (case' a_m58 => wtm_at "lec"); (case' b_m58 => wtm_at "le")))
local macro_rules | `(tactic| wtm_at "ret") => `(tactic| first
  | (wtm_at "reto")
  | (refine' s1_retE ?e_m59 ?sd_m59; (case' e_m59 => wtm_at "ev"); try (case sd_m59 => rfl)))
local macro_rules | `(tactic| wtm_at "st") => `(tactic| first | (wtm_at "set") | (wtm_at "app") | (wtm_at "put") | (wtm_at "ret"))
local macro_rules | `(tactic| wtm_at "iter") => `(tactic| first
  | (refine' rangeF ?q1_m60 ?q2_m60 ?q3_m60 ?a_m60 ?sd_m60 ?sd2_m60; (case' q1_m60 => assumption); (case' q2_m60 => decide +kernel); (case' q3_m60 => with_reducible assumption); (case' a_m60 => wtm_at "ev"); (case' sd_m60 => try (wtm_at "sd")); (case' sd2_m60 => try (wtm_at "sd")))
  | (refine' range2F ?q1_m61 ?q2_m61 ?q3_m61 ?a_m61 ?sd_m61 ?sd2_m61 ?sd3_m61 ?sd4_m61; (case' q1_m61 => assumption); (case' q2_m61 => decide +kernel); (case' q3_m61 => with_reducible assumption); (case' a_m61 => wtm_at "args"); (case' sd_m61 => try (wtm_at "sd")); (case' sd2_m61 => try (wtm_at "sd")); (case' sd3_m61 => try (wtm_at "sd")); (case' sd4_m61 => try (wtm_at "sd")))
  | (refine' ei_dat ?a_m62 ?r_m62; (case' a_m62 => wtm_at "ev"); (case' r_m62 => wtm_at "seqd"))
  | (refine' ei_dat (ev_frz ?a_m63) SeqD.lst; (case' a_m63 => wtm_at "ev")))
namespace W
open PySem PySem.Spec PyProof.Rows L2 LR
section
variable {P : Program} {w : World} {K : PySem.W.Frag} {mg : Str → Option Value} {base : Heap}
inductive rOn : List PyData → Res → Prop
  | mk {P n : Int} (h : 0 < P) : rOn [.int P, .int n] (.ok (.dat (.int (n % P))))
local macro_rules | `(tactic| wtm_at "nm") => `(tactic| first
  | ((with_reducible show Ev _ _ (.Name "P" _) _); exact nmF (by assumption) 0 (by rfl) rfl (by decide +kernel) (by decide +kernel) (by decide +kernel))
  | ((with_reducible show Ev _ _ (.Name "n" _) _); exact nmF (by assumption) 1 (by rfl) rfl (by decide +kernel) (by decide +kernel) (by decide +kernel)))
local macro_rules | `(tactic| wtm_at "own") => `(tactic| first
  | ((with_reducible show EvS _ _ (.Name "P" _) _ _); exact ownF (by assumption) 0 (by rfl) rfl (by decide +kernel) (by decide +kernel) (by decide +kernel))
  | ((with_reducible show EvS _ _ (.Name "n" _) _ _); exact ownF (by assumption) 1 (by rfl) rfl (by decide +kernel) (by decide +kernel) (by decide +kernel)))
local macro_rules | `(tactic| wtm_at "ownl") => `(tactic| first
  | ((with_reducible show EvL _ _ (.Name "P" _) _); exact ownlF (by assumption) 0 (by rfl) rfl (by decide +kernel) (by decide +kernel) (by decide +kernel))
  | ((with_reducible show EvL _ _ (.Name "n" _) _); exact ownlF (by assumption) 1 (by rfl) rfl (by decide +kernel) (by decide +kernel) (by decide +kernel)))
local macro_rules | `(tactic| wtm_at "set") => `(tactic| first
  | ((with_reducible show S1 _ _ (.Assign [.Name "P" _] _ _) _); refine' setF ?st1 ?st2 0 ?st3 ?st4 ?ste ?st5; (case' st1 => assumption); (case' st2 => assumption); (case' st3 => rfl); (case' st4 => decide +kernel); (case' ste => wtm_at "ev"); (case' st5 => rfl))
  | ((with_reducible show S1 _ _ (.Assign [.Name "n" _] _ _) _); refine' setF ?st1 ?st2 1 ?st3 ?st4 ?ste ?st5; (case' st1 => assumption); (case' st2 => assumption); (case' st3 => rfl); (case' st4 => decide +kernel); (case' ste => wtm_at "ev"); (case' st5 => rfl)))
local macro_rules | `(tactic| wtm_at "app") => `(tactic| first
  | ((with_reducible show S1 _ _ (.Expr (.Call (.Attribute (.Name "P" _) _ _) _ _ _) _) _); refine' appF ?ap1 0 ?ap2 ?ap3 ?ap4 ?ape ?aps ?ap5 ?ap6; (case' ap1 => assumption); (case' ap2 => rfl); (case' ap3 => rfl); (case' ap4 => decide +kernel); (case' ape => wtm_at "ev"); (case' aps => try (wtm_at "sz")); (case' ap5 => decide +kernel); (case' ap6 => decide +kernel))
  | ((with_reducible show S1 _ _ (.Expr (.Call (.Attribute (.Name "n" _) _ _) _ _ _) _) _); refine' appF ?ap1 1 ?ap2 ?ap3 ?ap4 ?ape ?aps ?ap5 ?ap6; (case' ap1 => assumption); (case' ap2 => rfl); (case' ap3 => rfl); (case' ap4 => decide +kernel); (case' ape => wtm_at "ev"); (case' aps => try (wtm_at "sz")); (case' ap5 => decide +kernel); (case' ap6 => decide +kernel)))
local macro_rules | `(tactic| wtm_at "put") => `(tactic| first
  | ((with_reducible show S1 _ _ (.Assign [.Subscript (.Name "P" _) _ _] _ _) _); refine' putF ?pu1 0 ?pu2 ?pu3 ?pu4 ?pue ?pui ?pu5 ?pu6 ?pu7 ?pu8; (case' pu1 => assumption); (case' pu2 => rfl); (case' pu3 => rfl); (case' pu4 => decide +kernel); (case' pue => wtm_at "ev"); (case' pui => wtm_at "ev"); (case' pu5 => try (wtm_at "sd")); (case' pu6 => try (wtm_at "sd")); (case' pu7 => decide +kernel); (case' pu8 => decide +kernel))
  | ((with_reducible show S1 _ _ (.Assign [.Subscript (.Name "n" _) _ _] _ _) _); refine' putF ?pu1 1 ?pu2 ?pu3 ?pu4 ?pue ?pui ?pu5 ?pu6 ?pu7 ?pu8; (case' pu1 => assumption); (case' pu2 => rfl); (case' pu3 => rfl); (case' pu4 => decide +kernel); (case' pue => wtm_at "ev"); (case' pui => wtm_at "ev"); (case' pu5 => try (wtm_at "sd")); (case' pu6 => try (wtm_at "sd")); (case' pu7 => decide +kernel); (case' pu8 => decide +kernel)))
local macro_rules | `(tactic| wtm_at "reto") => `(tactic| first
  | ((with_reducible show S1 _ _ (.Return (some (.Name "P" _)) _) _); exact retOF (by assumption) 0 (by rfl) rfl (by decide +kernel) (by decide +kernel) (by decide +kernel))
  | ((with_reducible show S1 _ _ (.Return (some (.Name "n" _)) _) _); exact retOF (by assumption) 1 (by rfl) rfl (by decide +kernel) (by decide +kernel) (by decide +kernel)))
local macro_rules | `(tactic| wtm_at "tgt") => `(tactic| first
  | ((with_reducible show PG _ (.Name "P" _) _); exact tgF (by assumption) (by assumption) 0 (by rfl) (by decide +kernel))
  | ((with_reducible show PG _ (.Name "n" _) _); exact tgF (by assumption) (by assumption) 1 (by rfl) (by decide +kernel)))
theorem ok_on {f : Addr} {fd : FuncData} (F : Fun K "on" "on" s_on f fd) (hm : mg "on" = some (.ref f)) (b : Binds K fd ["P", "n"] []) : Fn P w K mg base 1 "on" ["P", "n"] rOn := by
  refine fnF F hm b sc_on (fun ds r h => by cases h; rfl) fun X hX hT ds r h => ?_
  cases h with
  | mk h =>
    refine' sm_end ?s1
    case' s1 => wtm_at "st"
def wsum (f s : List Int) (k : Nat) : Int := f.getD s.length 0 + ((List.range k).map fun j => f.getD j 0 * s.getD j 0).sum
theorem wsum_succ (f s : List Int) (k : Nat) : wsum f s (k + 1) = wsum f s k + f.getD k 0 * s.getD k 0 := by
  unfold wsum
  rw [List.range_succ, List.map_append, List.sum_append]
  simp
  omega
def worth (P : Int) (f s : List Int) : Int := wsum f s s.length % P
inductive rWorth : List PyData → Res → Prop
  | mk {P : Int} {f s : List Int} (h : 0 < P) (hl : f.length = s.length + 1) (hz : s.length ≤ 100) (hf : ∀ x ∈ f, 0 ≤ x ∧ x < 10000) : rWorth [.int P, tI f, tI s] (.ok (.dat (.int (worth P f s))))
theorem getD_mem {α : Type} {l : List α} {i : Nat} {z : α} (h : i < l.length) : l.getD i z ∈ l := by
  rw [List.getD_eq_getElem?_getD, List.getElem?_eq_getElem h]
  exact List.getElem_mem h
def turned (P : Int) (t : List (List Int)) (s : List Int) : List Int := t.map fun f => worth P f s
/-- a form of so many boxes -/
def Frm (n : Nat) (f : List Int) : Prop := f.length = n + 1 ∧ ∀ x ∈ f, 0 ≤ x ∧ x < 10000
inductive rTurned : List PyData → Res → Prop
  | mk {P : Int} {t : List (List Int)} {s : List Int} (h : 0 < P) (ht : ∀ f ∈ t, Frm s.length f) (hz : s.length ≤ 100) (hz2 : t.length ≤ 100) : rTurned [.int P, tT t, tI s] (.ok (.dat (tI (turned P t s))))
end
end W

namespace W
open PySem PySem.Spec PyProof.Rows L2 LR
section
variable {P : Program} {w : World} {K : PySem.W.Frag} {mg : Str → Option Value} {base : Heap}
def boxForm (n : Nat) (x : Int) : List Int := (List.range (n + 1)).map fun k : Nat => if decide ((k : Int) = x) then 1 else 0
def idle (n : Nat) : List (List Int) := (List.range n).map fun x : Nat => boxForm n x
theorem boxForm_frm (n : Nat) (x : Int) : Frm n (boxForm n x) := ⟨by simp [boxForm], fun y hy => by
  simp only [boxForm, List.mem_map] at hy
  obtain ⟨k, _, rfl⟩ := hy
  split <;> omega⟩
theorem idle_len (n : Nat) : (idle n).length = n := by simp [idle]
theorem idle_frm {n : Nat} : ∀ f ∈ idle n, Frm n f := fun f hf => by
  simp only [idle, List.mem_map] at hf
  obtain ⟨x, _, rfl⟩ := hf
  exact boxForm_frm n x
inductive rBox : List PyData → Res → Prop
  | mk {n : Nat} {x : Int} (h : n ≤ 100) : rBox [.int n, .int x] (.ok (.dat (tI (boxForm n x))))
inductive rIdle : List PyData → Res → Prop
  | mk {n : Nat} (h : n ≤ 100) : rIdle [.int n] (.ok (.dat (tT (idle n))))
def setting (n : Nat) (x : Nat) (f : List Int) : List (List Int) := (idle n).set x f
inductive rSetting : List PyData → Res → Prop
  | mk {n x : Nat} {f : List Int} (h : n ≤ 100) (hx : x < n) : rSetting [.int n, .int x, tI f] (.ok (.dat (tT (setting n x f))))
def rowAt (P : Int) (one : List (List Int)) (f : List Int) (i : Nat) : Nat → Int
  | 0 => if i = one.length then f.getD one.length 0 else 0
  | k + 1 => (rowAt P one f i k + f.getD k 0 * (one.getD k []).getD i 0) % P
def rowK (P : Int) (one : List (List Int)) (f : List Int) (k : Nat) : List Int := (List.range (one.length + 1)).map fun i => rowAt P one f i k
def formBehind (P : Int) (one : List (List Int)) (f : List Int) : List Int := rowK P one f one.length
/-- in the midst of a turn -/
def rowM (P : Int) (one : List (List Int)) (f : List Int) (k m : Nat) : List Int := (List.range (one.length + 1)).map fun i => if i < m then rowAt P one f i (k + 1) else rowAt P one f i k
theorem rowM_zero (P : Int) (one : List (List Int)) (f : List Int) (k : Nat) : rowM P one f k 0 = rowK P one f k := by simp [rowM, rowK]
theorem rowM_all (P : Int) (one : List (List Int)) (f : List Int) (k : Nat) : rowM P one f k (one.length + 1) = rowK P one f (k + 1) := by
  unfold rowM rowK
  refine List.map_congr_left fun i hi => ?_
  rw [if_pos (List.mem_range.mp hi)]
theorem rowM_len (P : Int) (one : List (List Int)) (f : List Int) (k m : Nat) : (rowM P one f k m).length = one.length + 1 := by simp [rowM]
theorem rowM_get {P : Int} {one : List (List Int)} {f : List Int} {k m : Nat} (h : m < one.length + 1) : (rowM P one f k m).getD m 0 = rowAt P one f m k := by
  unfold rowM
  rw [List.getD_eq_getElem?_getD, List.getElem?_map, List.getElem?_range h]
  simp
theorem rowM_set {P : Int} {one : List (List Int)} {f : List Int} {k m : Nat} : (rowM P one f k m).set m (rowAt P one f m (k + 1)) = rowM P one f k (m + 1) := by
  unfold rowM
  apply List.ext_getElem?
  intro j
  rw [List.getElem?_set]
  simp only [List.length_map, List.length_range, List.getElem?_map]
  by_cases hj : j < one.length + 1
  · rw [List.getElem?_range hj]
    by_cases hm : m = j
    · subst hm
      simp [hj]
    · rw [if_neg hm]
      simp only [Option.map_some]
      congr 1
      by_cases h1 : j < m
      · rw [if_pos h1, if_pos (by omega)]
      · rw [if_neg h1, if_neg (by omega)]
  · rw [List.getElem?_eq_none (by simpa using hj)]
    split
    · rw [if_neg (by omega)]; rfl
    · rfl
theorem rowK_zero (P : Int) (one : List (List Int)) (f : List Int) : rowK P one f 0 = List.replicate one.length 0 ++ [f.getD one.length 0] := by
  unfold rowK
  rw [List.range_succ, List.map_append]
  congr 1
  · apply List.ext_getElem?
    intro j
    by_cases hj : j < one.length
    · rw [List.getElem?_map, List.getElem?_range hj, List.getElem?_replicate, if_pos hj]
      simp [rowAt]; omega
    · rw [List.getElem?_eq_none (by simpa using hj), List.getElem?_eq_none (by simpa using hj)]
  · simp [rowAt]
inductive rBehind : List PyData → Res → Prop
  | mk {P : Int} {one : List (List Int)} {f : List Int} (h : 0 < P) (hn : one.length ≤ 100) (h1 : ∀ g ∈ one, Frm one.length g) (hf : Frm one.length f) : rBehind [.int P, tT one, tI f] (.ok (.dat (tI (formBehind P one f))))
theorem formBehind_len (P : Int) (one : List (List Int)) (f : List Int) : (formBehind P one f).length = one.length + 1 := by simp [formBehind, rowK]
def thenT (P : Int) (one other : List (List Int)) : List (List Int) := other.map fun f => formBehind P one f
inductive rThen : List PyData → Res → Prop
  | mk {P : Int} {one other : List (List Int)} (h : 0 < P) (hn : one.length ≤ 100) (hm : other.length ≤ 100) (h1 : ∀ g ∈ one, Frm one.length g) (h2 : ∀ g ∈ other, Frm one.length g) : rThen [.int P, tT one, tT other] (.ok (.dat (tT (thenT P one other))))
end
end W

namespace W
/-! sums and congruence -/
def sm : Nat → (Nat → Int) → Int
  | 0, _ => 0
  | k + 1, g => sm k g + g k
theorem sm_congr : ∀ {n : Nat} {g h : Nat → Int}, (∀ k, k < n → g k = h k) → sm n g = sm n h
  | 0, _, _, _ => rfl
  | n + 1, g, h, e => by
    show sm n g + g n = sm n h + h n
    rw [sm_congr (n := n) fun k hk => e k (by omega), e n (by omega)]
theorem sm_add : ∀ {n : Nat} {g h : Nat → Int}, sm n (fun k => g k + h k) = sm n g + sm n h
  | 0, _, _ => rfl
  | n + 1, g, h => by
    show sm n (fun k => g k + h k) + (g n + h n) = (sm n g + g n) + (sm n h + h n)
    rw [sm_add (n := n)]; omega
theorem sm_mulL {c : Int} : ∀ {n : Nat} {g : Nat → Int}, sm n (fun k => c * g k) = c * sm n g
  | 0, _ => by simp [sm]
  | n + 1, g => by
    show sm n (fun k => c * g k) + c * g n = c * (sm n g + g n)
    rw [sm_mulL (n := n), Int.mul_add]
theorem sm_mulR {c : Int} {n : Nat} {g : Nat → Int} : sm n (fun k => g k * c) = sm n g * c := by
  rw [Int.mul_comm, ← sm_mulL]
  exact sm_congr fun k _ => Int.mul_comm _ _
theorem sm_zero : ∀ {n : Nat}, sm n (fun _ => 0) = 0
  | 0 => rfl
  | n + 1 => by show sm n (fun _ => 0) + 0 = 0; rw [sm_zero (n := n)]; rfl
theorem sm_swap {m : Nat} {g : Nat → Nat → Int} : ∀ {n : Nat}, sm n (fun i => sm m (fun j => g i j)) = sm m (fun j => sm n (fun i => g i j))
  | 0 => by show 0 = sm m (fun _ => 0); rw [sm_zero]
  | n + 1 => by
    show sm n (fun i => sm m (fun j => g i j)) + sm m (fun j => g n j) = sm m (fun j => sm n (fun i => g i j) + g n j)
    rw [sm_add, sm_swap (n := n)]
theorem sm_pick {x : Nat} {g : Nat → Int} : ∀ {n : Nat}, sm n (fun k => if k = x then g k else 0) = if x < n then g x else 0
  | 0 => by simp [sm]
  | n + 1 => by
    show sm n (fun k => if k = x then g k else 0) + (if n = x then g n else 0) = _
    rw [sm_pick (n := n)]
    by_cases h : n = x
    · subst h; simp
    · by_cases h2 : x < n
      · simp [h, h2, show x < n + 1 by omega]
      · simp [h, h2, show ¬ x < n + 1 by omega]
def Em (P a b : Int) : Prop := a % P = b % P
section
variable {P a b c d : Int}
theorem Em.refl : Em P a a := rfl
theorem Em.symm (h : Em P a b) : Em P b a := Eq.symm h
theorem Em.trans (h : Em P a b) (k : Em P b c) : Em P a c := Eq.trans h k
theorem Em.of_eq (h : a = b) : Em P a b := h ▸ Em.refl
theorem Em.mod : Em P (a % P) a := by show a % P % P = a % P; rw [Int.emod_emod_of_dvd _ (Int.dvd_refl P)]
theorem Em.add (h : Em P a b) (k : Em P c d) : Em P (a + c) (b + d) := by
  show (a + c) % P = (b + d) % P
  rw [Int.add_emod a c, Int.add_emod b d, h, k]
theorem Em.mul (h : Em P a b) (k : Em P c d) : Em P (a * c) (b * d) := by
  show (a * c) % P = (b * d) % P
  rw [Int.mul_emod a c, Int.mul_emod b d, h, k]
theorem Em.sub (h : Em P a b) (k : Em P c d) : Em P (a - c) (b - d) := by
  show (a - c) % P = (b - d) % P
  rw [Int.sub_emod a c, Int.sub_emod b d, h, k]
theorem Em.sm : ∀ {n : Nat} {g h : Nat → Int}, (∀ k, k < n → Em P (g k) (h k)) → Em P (sm n g) (sm n h)
  | 0, _, _, _ => rfl
  | n + 1, g, h, e => Em.add (Em.sm fun k hk => e k (by omega)) (e n (by omega))
theorem Em.eq (h : Em P a b) (a0 : 0 ≤ a) (a1 : a < P) (b0 : 0 ≤ b) (b1 : b < P) : a = b := by
  have e : a % P = b % P := h
  rwa [Int.emod_eq_of_lt a0 a1, Int.emod_eq_of_lt b0 b1] at e
end
/-! lists by their items -/
theorem ext_getD {α : Type} {xs ys : List α} (z : α) (hl : xs.length = ys.length) (h : ∀ i, i < xs.length → xs.getD i z = ys.getD i z) : xs = ys := by
  apply List.ext_getElem?
  intro i
  by_cases hi : i < xs.length
  · have := h i hi
    rw [List.getD_eq_getElem?_getD, List.getD_eq_getElem?_getD] at this
    rw [List.getElem?_eq_getElem hi, List.getElem?_eq_getElem (by omega : i < ys.length)] at this ⊢
    simpa using this
  · rw [List.getElem?_eq_none (by omega), List.getElem?_eq_none (by omega)]
theorem getD_map {α β : Type} (f : α → β) {xs : List α} {i : Nat} (z : α) (y : β) (h : i < xs.length) : (xs.map f).getD i y = f (xs.getD i z) := by
  rw [List.getD_eq_getElem?_getD, List.getD_eq_getElem?_getD, List.getElem?_map, List.getElem?_eq_getElem h]
  rfl
theorem getD_rangeMap {β : Type} (f : Nat → β) {n i : Nat} (y : β) (h : i < n) : ((List.range n).map f).getD i y = f i := by
  rw [List.getD_eq_getElem?_getD, List.getElem?_map, List.getElem?_range h]
  rfl
/-- on the wheel -/
def OnW (P : Int) (f : List Int) : Prop := ∀ x ∈ f, 0 ≤ x ∧ x < P
/-- a table of n boxes on the wheel -/
structure Tbl (P : Int) (n : Nat) (t : List (List Int)) : Prop where
  len : t.length = n
  row : ∀ f ∈ t, f.length = n + 1 ∧ OnW P f
theorem Tbl.frm {P : Int} {n : Nat} {t : List (List Int)} (h : Tbl P n t) (hP : P ≤ 9999) : ∀ f ∈ t, Frm n f := fun f hf => ⟨(h.row f hf).1, fun x hx => by have := (h.row f hf).2 x hx; omega⟩
theorem Tbl.frm' {P : Int} {n : Nat} {t : List (List Int)} (h : Tbl P n t) (hP : P ≤ 9999) : ∀ f ∈ t, Frm t.length f := by rw [h.len]; exact h.frm hP
def ini (n : Nat) (f : List Int) (i : Nat) : Int := if i = n then f.getD n 0 else 0
section
variable {P : Int} {one : List (List Int)} {f : List Int}
theorem rowAt_em (i : Nat) : ∀ k, Em P (rowAt P one f i k) (ini one.length f i + sm k fun j => f.getD j 0 * (one.getD j []).getD i 0)
  | 0 => by show Em P (if i = one.length then _ else _) _; exact Em.of_eq (by simp [ini, sm])
  | k + 1 => by
    show Em P ((rowAt P one f i k + f.getD k 0 * (one.getD k []).getD i 0) % P) _
    refine Em.mod.trans ?_
    have := (rowAt_em i k).add (Em.refl (P := P) (a := f.getD k 0 * (one.getD k []).getD i 0))
    exact this.trans (Em.of_eq (Int.add_assoc _ _ _))
theorem behind_get {i : Nat} (hn : 1 ≤ one.length) (hi : i < one.length + 1) : (formBehind P one f).getD i 0 = (ini one.length f i + sm one.length fun j => f.getD j 0 * (one.getD j []).getD i 0) % P := by
  unfold formBehind rowK
  rw [getD_rangeMap _ _ hi]
  have e := rowAt_em (P := P) (one := one) (f := f) i one.length
  have e2 : rowAt P one f i one.length = rowAt P one f i one.length % P := by
    obtain ⟨m, hm⟩ : ∃ m, one.length = m + 1 := ⟨one.length - 1, by omega⟩
    rw [hm]
    show (_ % P) = (_ % P) % P
    rw [Int.emod_emod_of_dvd _ (Int.dvd_refl P)]
  rw [e2]
  exact e
theorem behind_on (hn : 1 ≤ one.length) (hP : 0 < P) : OnW P (formBehind P one f) := fun x hx => by
  obtain ⟨i, hi, rfl⟩ := List.mem_iff_getElem.mp hx
  have h1 := behind_get (P := P) (one := one) (f := f) hn (by rw [formBehind_len] at hi; exact hi)
  rw [List.getD_eq_getElem?_getD, List.getElem?_eq_getElem hi] at h1
  simp only [Option.getD_some] at h1
  rw [h1]
  exact ⟨Int.emod_nonneg _ (by omega), Int.emod_lt_of_pos _ hP⟩
end
theorem then_tbl {P : Int} {n : Nat} {one other : List (List Int)} (hP : 0 < P) (hn : 1 ≤ n) (h1 : Tbl P n one) (h2 : Tbl P n other) : Tbl P n (thenT P one other) where
  len := by simp [thenT, h2.len]
  row := fun f hf => by
    simp only [thenT, List.mem_map] at hf
    obtain ⟨g, _, rfl⟩ := hf
    exact ⟨by rw [formBehind_len, h1.len], behind_on (by rw [h1.len]; exact hn) hP⟩
theorem then_get {P : Int} {one other : List (List Int)} {k : Nat} (h : k < other.length) : (thenT P one other).getD k [] = formBehind P one (other.getD k []) := getD_map _ [] [] h
/-- one and then other: its numbers -/
theorem then_num {P : Int} {n : Nat} {one other : List (List Int)} {k i : Nat} (hn : 1 ≤ n) (h1 : Tbl P n one) (h2 : Tbl P n other) (hk : k < n) (hi : i < n + 1) :
    ((thenT P one other).getD k []).getD i 0 = (ini n (other.getD k []) i + sm n fun j => (other.getD k []).getD j 0 * (one.getD j []).getD i 0) % P := by
  rw [then_get (by rw [h2.len]; exact hk)]
  have := behind_get (P := P) (one := one) (f := other.getD k []) (i := i) (by rw [h1.len]; exact hn) (by rw [h1.len]; exact hi)
  rw [h1.len] at this
  exact this
theorem Tbl.rowLen {P : Int} {n : Nat} {t : List (List Int)} (h : Tbl P n t) {k : Nat} (hk : k < n) : (t.getD k []).length = n + 1 := (h.row _ (getD_mem (by rw [h.len]; exact hk))).1
theorem Tbl.num {P : Int} {n : Nat} {t : List (List Int)} (h : Tbl P n t) {k i : Nat} (hk : k < n) (hi : i < n + 1) : 0 ≤ (t.getD k []).getD i 0 ∧ (t.getD k []).getD i 0 < P :=
  (h.row _ (getD_mem (by rw [h.len]; exact hk))).2 _ (getD_mem (by rw [h.rowLen hk]; exact hi))
theorem tbl_ext {P : Int} {n : Nat} {s t : List (List Int)} (h1 : Tbl P n s) (h2 : Tbl P n t) (h : ∀ k i, k < n → i < n + 1 → Em P ((s.getD k []).getD i 0) ((t.getD k []).getD i 0)) : s = t := by
  refine ext_getD [] (by rw [h1.len, h2.len]) fun k hk => ?_
  rw [h1.len] at hk
  refine ext_getD 0 (by rw [h1.rowLen hk, h2.rowLen hk]) fun i hi => ?_
  rw [h1.rowLen hk] at hi
  exact (h k i hk hi).eq (h1.num hk hi).1 (h1.num hk hi).2 (h2.num hk hi).1 (h2.num hk hi).2
theorem then_assoc {P : Int} {n : Nat} {a b c : List (List Int)} (hP : 0 < P) (hn : 1 ≤ n) (ha : Tbl P n a) (hb : Tbl P n b) (hc : Tbl P n c) : thenT P (thenT P a b) c = thenT P a (thenT P b c) := by
  have hab := then_tbl hP hn ha hb
  have hbc := then_tbl hP hn hb hc
  refine tbl_ext (then_tbl hP hn hab hc) (then_tbl hP hn ha hbc) fun k i hk hi => ?_
  rw [then_num hn hab hc hk hi, then_num hn ha hbc hk hi]
  refine Em.mod.trans (Em.trans ?_ Em.mod.symm)
  have lc : (c.getD k []).length = n + 1 := hc.rowLen hk
  -- left
  have e1 : Em P (sm n fun j => (c.getD k []).getD j 0 * ((thenT P a b).getD j []).getD i 0) (sm n fun j => (c.getD k []).getD j 0 * (ini n (b.getD j []) i + sm n fun l => (b.getD j []).getD l 0 * (a.getD l []).getD i 0)) :=
    Em.sm fun j hj => Em.refl.mul (by rw [then_num hn ha hb hj hi]; exact Em.mod)
  -- right
  have e2 : Em P (sm n fun l => ((thenT P b c).getD k []).getD l 0 * (a.getD l []).getD i 0) (sm n fun l => (sm n fun j => (c.getD k []).getD j 0 * (b.getD j []).getD l 0) * (a.getD l []).getD i 0) :=
    Em.sm fun l hl => Em.mul (by
      rw [then_num hn hb hc hk (by omega)]
      refine Em.mod.trans (Em.of_eq ?_)
      simp [ini, show l ≠ n by omega]) Em.refl
  have e3 : Em P (ini n ((thenT P b c).getD k []) i) (ini n (c.getD k []) i + sm n fun j => (c.getD k []).getD j 0 * ini n (b.getD j []) i) := by
    unfold ini
    by_cases hin : i = n
    · simp only [hin, if_true]
      rw [then_num hn hb hc hk (by omega)]
      refine Em.mod.trans (Em.of_eq ?_)
      simp [ini]
    · simp only [hin, if_false]
      exact Em.of_eq (by simp [sm_zero])
  refine (Em.refl.add e1).trans (Em.trans (Em.of_eq ?_) (e3.add e2).symm)
  have e4 : (sm n fun j => (c.getD k []).getD j 0 * (ini n (b.getD j []) i + sm n fun l => (b.getD j []).getD l 0 * (a.getD l []).getD i 0)) =
      (sm n fun j => (c.getD k []).getD j 0 * ini n (b.getD j []) i) + sm n fun j => sm n fun l => (c.getD k []).getD j 0 * (b.getD j []).getD l 0 * (a.getD l []).getD i 0 := by
    rw [← sm_add]
    refine sm_congr fun j _ => ?_
    rw [Int.mul_add, ← sm_mulL]
    congr 1
    exact sm_congr fun l _ => (Int.mul_assoc _ _ _).symm
  have e5 : (sm n fun l => (sm n fun j => (c.getD k []).getD j 0 * (b.getD j []).getD l 0) * (a.getD l []).getD i 0) = sm n fun j => sm n fun l => (c.getD k []).getD j 0 * (b.getD j []).getD l 0 * (a.getD l []).getD i 0 := by
    rw [sm_swap]
    exact sm_congr fun l _ => sm_mulR.symm
  rw [e4, e5]
  omega
theorem box_get {n : Nat} {x i : Nat} (hi : i < n + 1) : (boxForm n (x : Int)).getD i 0 = if i = x then 1 else 0 := by
  unfold boxForm
  rw [getD_rangeMap _ _ hi]
  by_cases h : i = x
  · simp [h]
  · simp [h]; omega
theorem idle_tbl {P : Int} {n : Nat} (hP : 1 < P) : Tbl P n (idle n) where
  len := idle_len n
  row := fun f hf => by
    simp only [idle, List.mem_map] at hf
    obtain ⟨x, _, rfl⟩ := hf
    refine ⟨(boxForm_frm n x).1, fun y hy => ?_⟩
    simp only [boxForm, List.mem_map] at hy
    obtain ⟨k, _, rfl⟩ := hy
    split <;> omega
theorem idle_num {n x i : Nat} (hx : x < n) (hi : i < n + 1) : ((idle n).getD x []).getD i 0 = if i = x then 1 else 0 := by
  unfold idle
  rw [getD_rangeMap _ _ hx, box_get hi]
theorem idle_then {P : Int} {n : Nat} {t : List (List Int)} (hP : 1 < P) (hn : 1 ≤ n) (h : Tbl P n t) : thenT P (idle n) t = t := by
  refine tbl_ext (then_tbl (by omega) hn (idle_tbl hP) h) h fun k i hk hi => ?_
  rw [then_num hn (idle_tbl hP) h hk hi]
  refine Em.mod.trans (Em.of_eq ?_)
  have e : (sm n fun j => (t.getD k []).getD j 0 * ((idle n).getD j []).getD i 0) = sm n fun j => if j = i then (t.getD k []).getD j 0 else 0 :=
    sm_congr fun j hj => by
      rw [idle_num hj hi]
      by_cases h1 : j = i
      · simp [h1]
      · simp [h1, show ¬ i = j from fun e => h1 e.symm]
  rw [e, sm_pick]
  unfold ini
  by_cases h1 : i = n
  · simp [h1]
  · simp [h1, show i < n by omega]
theorem then_idle {P : Int} {n : Nat} {t : List (List Int)} (hP : 1 < P) (hn : 1 ≤ n) (h : Tbl P n t) : thenT P t (idle n) = t := by
  refine tbl_ext (then_tbl (by omega) hn h (idle_tbl hP)) h fun k i hk hi => ?_
  rw [then_num hn h (idle_tbl hP) hk hi]
  refine Em.mod.trans (Em.of_eq ?_)
  have e : (sm n fun j => ((idle n).getD k []).getD j 0 * (t.getD j []).getD i 0) = sm n fun j => if j = k then (t.getD j []).getD i 0 else 0 :=
    sm_congr fun j hj => by
      rw [idle_num hk (by omega)]
      by_cases h1 : j = k
      · simp [h1]
      · simp [h1]
  rw [e, sm_pick]
  have e2 : ini n ((idle n).getD k []) i = 0 := by
    unfold ini
    by_cases h1 : i = n
    · rw [if_pos h1, idle_num hk (by omega), if_neg (by omega)]
    · rw [if_neg h1]
  rw [e2, if_pos hk]
  omega
end W

namespace W
open PySem PySem.Spec PyProof.Rows L2 LR
section
variable {P : Program} {w : World} {K : PySem.W.Frag} {mg : Str → Option Value} {base : Heap}
def lawCell (sc : List Int) (k : Int) : Int := if k < sc.length then sc.getD k.toNat 0 else 0
inductive rCell : List PyData → Res → Prop
  | mk {s : List Int} {k : Int} (h : 0 ≤ k) : rCell [.list (s.map .int), .int k] (.ok (.dat (.int (lawCell s k))))
local macro_rules | `(tactic| wtm_at "nm") => `(tactic| first
  | ((with_reducible show Ev _ _ (.Name "script" _) _); exact nmF (by assumption) 0 (by rfl) rfl (by decide +kernel) (by decide +kernel) (by decide +kernel))
  | ((with_reducible show Ev _ _ (.Name "k" _) _); exact nmF (by assumption) 1 (by rfl) rfl (by decide +kernel) (by decide +kernel) (by decide +kernel)))
local macro_rules | `(tactic| wtm_at "own") => `(tactic| first
  | ((with_reducible show EvS _ _ (.Name "script" _) _ _); exact ownF (by assumption) 0 (by rfl) rfl (by decide +kernel) (by decide +kernel) (by decide +kernel))
  | ((with_reducible show EvS _ _ (.Name "k" _) _ _); exact ownF (by assumption) 1 (by rfl) rfl (by decide +kernel) (by decide +kernel) (by decide +kernel)))
local macro_rules | `(tactic| wtm_at "ownl") => `(tactic| first
  | ((with_reducible show EvL _ _ (.Name "script" _) _); exact ownlF (by assumption) 0 (by rfl) rfl (by decide +kernel) (by decide +kernel) (by decide +kernel))
  | ((with_reducible show EvL _ _ (.Name "k" _) _); exact ownlF (by assumption) 1 (by rfl) rfl (by decide +kernel) (by decide +kernel) (by decide +kernel)))
local macro_rules | `(tactic| wtm_at "set") => `(tactic| first
  | ((with_reducible show S1 _ _ (.Assign [.Name "script" _] _ _) _); refine' setF ?st1 ?st2 0 ?st3 ?st4 ?ste ?st5; (case' st1 => assumption); (case' st2 => assumption); (case' st3 => rfl); (case' st4 => decide +kernel); (case' ste => wtm_at "ev"); (case' st5 => rfl))
  | ((with_reducible show S1 _ _ (.Assign [.Name "k" _] _ _) _); refine' setF ?st1 ?st2 1 ?st3 ?st4 ?ste ?st5; (case' st1 => assumption); (case' st2 => assumption); (case' st3 => rfl); (case' st4 => decide +kernel); (case' ste => wtm_at "ev"); (case' st5 => rfl)))
local macro_rules | `(tactic| wtm_at "app") => `(tactic| first
  | ((with_reducible show S1 _ _ (.Expr (.Call (.Attribute (.Name "script" _) _ _) _ _ _) _) _); refine' appF ?ap1 0 ?ap2 ?ap3 ?ap4 ?ape ?aps ?ap5 ?ap6; (case' ap1 => assumption); (case' ap2 => rfl); (case' ap3 => rfl); (case' ap4 => decide +kernel); (case' ape => wtm_at "ev"); (case' aps => try (wtm_at "sz")); (case' ap5 => decide +kernel); (case' ap6 => decide +kernel))
  | ((with_reducible show S1 _ _ (.Expr (.Call (.Attribute (.Name "k" _) _ _) _ _ _) _) _); refine' appF ?ap1 1 ?ap2 ?ap3 ?ap4 ?ape ?aps ?ap5 ?ap6; (case' ap1 => assumption); (case' ap2 => rfl); (case' ap3 => rfl); (case' ap4 => decide +kernel); (case' ape => wtm_at "ev"); (case' aps => try (wtm_at "sz")); (case' ap5 => decide +kernel); (case' ap6 => decide +kernel)))
local macro_rules | `(tactic| wtm_at "put") => `(tactic| first
  | ((with_reducible show S1 _ _ (.Assign [.Subscript (.Name "script" _) _ _] _ _) _); refine' putF ?pu1 0 ?pu2 ?pu3 ?pu4 ?pue ?pui ?pu5 ?pu6 ?pu7 ?pu8; (case' pu1 => assumption); (case' pu2 => rfl); (case' pu3 => rfl); (case' pu4 => decide +kernel); (case' pue => wtm_at "ev"); (case' pui => wtm_at "ev"); (case' pu5 => try (wtm_at "sd")); (case' pu6 => try (wtm_at "sd")); (case' pu7 => decide +kernel); (case' pu8 => decide +kernel))
  | ((with_reducible show S1 _ _ (.Assign [.Subscript (.Name "k" _) _ _] _ _) _); refine' putF ?pu1 1 ?pu2 ?pu3 ?pu4 ?pue ?pui ?pu5 ?pu6 ?pu7 ?pu8; (case' pu1 => assumption); (case' pu2 => rfl); (case' pu3 => rfl); (case' pu4 => decide +kernel); (case' pue => wtm_at "ev"); (case' pui => wtm_at "ev"); (case' pu5 => try (wtm_at "sd")); (case' pu6 => try (wtm_at "sd")); (case' pu7 => decide +kernel); (case' pu8 => decide +kernel)))
local macro_rules | `(tactic| wtm_at "reto") => `(tactic| first
  | ((with_reducible show S1 _ _ (.Return (some (.Name "script" _)) _) _); exact retOF (by assumption) 0 (by rfl) rfl (by decide +kernel) (by decide +kernel) (by decide +kernel))
  | ((with_reducible show S1 _ _ (.Return (some (.Name "k" _)) _) _); exact retOF (by assumption) 1 (by rfl) rfl (by decide +kernel) (by decide +kernel) (by decide +kernel)))
local macro_rules | `(tactic| wtm_at "tgt") => `(tactic| first
  | ((with_reducible show PG _ (.Name "script" _) _); exact tgF (by assumption) (by assumption) 0 (by rfl) (by decide +kernel))
  | ((with_reducible show PG _ (.Name "k" _) _); exact tgF (by assumption) (by assumption) 1 (by rfl) (by decide +kernel)))
theorem ok_cell {f : Addr} {fd : FuncData} (F : Fun K "_law_cell" "_law_cell" s__law_cell f fd) (hm : mg "_law_cell" = some (.ref f)) (b : Binds K fd ["script", "k"] []) (ml : mg "len" = none) : Fn P w K mg base 1 "_law_cell" ["script", "k"] rCell := by
  refine fnF F hm b sc__law_cell (fun ds r h => by cases h; rfl) fun X hX hT ds r h => ?_
  cases h with
  | @mk s k hk =>
    by_cases hl : k < s.length
    · refine' sm_end (s1_if ?c (fun _ => sm_end ?s1) fun h => ?f)
      case' c => wtm_at "test"
      case' s1 => rw [lawCell, if_pos hl]; wtm_at "st"
      case f => simp [hl] at h
    · refine' sm_cons (s1_if ?c2 (fun h => ?f2) fun _ => sm_nil) ?_
      case' c2 => wtm_at "test"
      case f2 => simp [hl] at h
      rw [lawCell, if_neg hl]
      refine' sm_end ?s2
      case' s2 => wtm_at "st"
/-! a prime -/
def smooth (n : Int) : Bool := ((List.range 98).filter fun i : Nat => decide (2 + (i : Int) < n)).any fun i : Nat => decide (n % (2 + (i : Int)) = 0)
def lstep : Nat → Int → Nat
  | 0, _ => 0
  | f + 1, n => if smooth n then lstep f (n + 1) + 1 else 0
theorem lstep_ok : ∀ (k f : Nat) (n : Int), k ≤ f → smooth (n + k) = false → (∀ i, i < lstep f n → smooth (n + i) = true) ∧ smooth (n + lstep f n) = false ∧ lstep f n ≤ k
  | 0, f, n, hf, h => by
    have h0 : smooth n = false := by simpa using h
    cases f with
    | zero => exact ⟨fun i hi => by simp [lstep] at hi, by simpa [lstep] using h0, by simp [lstep]⟩
    | succ f => simp [lstep, h0]
  | k + 1, 0, n, hf, h => by omega
  | k + 1, f + 1, n, hf, h => by
    cases h0 : smooth n with
    | false => simp [lstep, h0]
    | true =>
      have e : n + ((k + 1 : Nat) : Int) = (n + 1) + (k : Int) := by omega
      rw [e] at h
      obtain ⟨a, b, c⟩ := lstep_ok k f (n + 1) (by omega) h
      have e2 : lstep (f + 1) n = lstep f (n + 1) + 1 := by simp [lstep, h0]
      rw [e2]
      refine ⟨fun i hi => ?_, ?_, by omega⟩
      · cases i with
        | zero => simpa using h0
        | succ i =>
          have := a i (by omega)
          have e3 : n + ((i + 1 : Nat) : Int) = (n + 1) + (i : Int) := by omega
          rw [e3]; exact this
      · have e3 : n + ((lstep f (n + 1) + 1 : Nat) : Int) = (n + 1) + (lstep f (n + 1) : Int) := by omega
        rw [e3]; exact b
theorem smooth_9973 : smooth 9973 = false := by decide +kernel
def nextP (n : Int) : Int := n + lstep 10000 n
theorem nextP_ok {n : Int} (h1 : 3 ≤ n) (h2 : n ≤ 9973) : ∃ k : Nat, (∀ i, i < k → smooth (n + i) = true) ∧ smooth (n + k) = false ∧ nextP n = n + k ∧ n + k ≤ 9973 := by
  have e : n + ((9973 - n).toNat : Int) = 9973 := by omega
  obtain ⟨a, b, c⟩ := lstep_ok (9973 - n).toNat 10000 n (by omega) (by rw [e]; exact smooth_9973)
  exact ⟨lstep 10000 n, a, b, rfl, by omega⟩
/-- a prime of the wheel -/
structure Prm (p : Int) : Prop where
  lo : 3 ≤ p
  hi : p ≤ 9999
  no : ∀ d, 2 ≤ d → d < p → p % d ≠ 0
theorem prm_of {n : Int} (h1 : 3 ≤ n) (h2 : n ≤ 9999) (h : smooth n = false) : Prm n := by
  refine ⟨h1, h2, fun d hd hd2 hm => ?_⟩
  have key : ∀ d : Int, 2 ≤ d → d < n → d < 100 → n % d = 0 → False := fun d hd hd2 h100 hm => by
    unfold smooth at h
    rw [List.any_eq_false] at h
    have := h (d - 2).toNat (by
      rw [List.mem_filter]
      exact ⟨List.mem_range.mpr (by omega), decide_eq_true (by omega)⟩)
    have e : 2 + (((d - 2).toNat : Nat) : Int) = d := by omega
    rw [e] at this
    simp [hm] at this
  by_cases h100 : d < 100
  · exact key d hd hd2 h100 hm
  · obtain ⟨q, hq⟩ := Int.dvd_of_emod_eq_zero hm
    have q0 : 0 < q := by
      rcases Int.lt_or_le 0 q with z | z
      · exact z
      · have : d * q ≤ d * 0 := Int.mul_le_mul_of_nonneg_left z (by omega)
        omega
    have q1 : 2 ≤ q := by
      rcases Int.lt_or_le q 2 with z | z
      · have : q = 1 := by omega
        subst this
        omega
      · exact z
    have q100 : q < 100 := by
      rcases Int.lt_or_le q 100 with z | z
      · exact z
      · have : 100 * 100 ≤ d * q := Int.mul_le_mul (by omega) z (by omega) (by omega)
        omega
    refine key q q1 ?_ q100 ?_
    · have : 2 * q ≤ d * q := Int.mul_le_mul_of_nonneg_right hd (by omega)
      omega
    · rw [hq]; exact Int.mul_emod_left d q
def lawPrime (cell : Int) : Int := if cell % 2 = 0 then [3, 5, 7, 11, 13, 17, 19, 23].getD (cell / 2 % 8).toNat 0 else nextP (3 + cell / 2 % 9971)
theorem lawPrime_prm (cell : Int) : Prm (lawPrime cell) ∧ lawPrime cell ≤ 9973 := by
  unfold lawPrime
  split
  · have h : ∀ k, k < 8 → smooth ([3, 5, 7, 11, 13, 17, 19, 23].getD k 0) = false ∧ (3 : Int) ≤ [3, 5, 7, 11, 13, 17, 19, 23].getD k 0 ∧ [3, 5, 7, 11, 13, 17, 19, 23].getD k 0 ≤ (9973 : Int) := by decide +kernel
    obtain ⟨a, b, c⟩ := h (cell / 2 % 8).toNat (by omega)
    exact ⟨prm_of b (by omega) a, c⟩
  · obtain ⟨k, _, b, c, d⟩ := nextP_ok (n := 3 + cell / 2 % 9971) (by omega) (by omega)
    rw [c]
    exact ⟨prm_of (by omega) (by omega) b, d⟩
inductive rPrime : List PyData → Res → Prop
  | mk {c : Int} : rPrime [.int c] (.ok (.dat (.int (lawPrime c))))
theorem et_eq {X : Cx} {A : List C} {e : Expr} {v u : Bool} (h : Et X A e v) (hd : v = u) : Et X A e u := hd ▸ h
theorem evs_eq {X : Cx} {A : List C} {e : Expr} {k : Bool} {ds ds' : List PyData} (h : EvS X A e k ds) (hd : ds = ds') : EvS X A e k ds' := hd ▸ h
local macro_rules | `(tactic| wtm_at "nm") => `(tactic| first
  | ((with_reducible show Ev _ _ (.Name "cell" _) _); exact nmF (by assumption) 0 (by rfl) rfl (by decide +kernel) (by decide +kernel) (by decide +kernel))
  | ((with_reducible show Ev _ _ (.Name "n" _) _); exact nmF (by assumption) 1 (by rfl) rfl (by decide +kernel) (by decide +kernel) (by decide +kernel))
  | ((with_reducible show Ev _ _ (.Name "by" _) _); exact nmF (by assumption) 2 (by rfl) rfl (by decide +kernel) (by decide +kernel) (by decide +kernel)))
local macro_rules | `(tactic| wtm_at "own") => `(tactic| first
  | ((with_reducible show EvS _ _ (.Name "cell" _) _ _); exact ownF (by assumption) 0 (by rfl) rfl (by decide +kernel) (by decide +kernel) (by decide +kernel))
  | ((with_reducible show EvS _ _ (.Name "n" _) _ _); exact ownF (by assumption) 1 (by rfl) rfl (by decide +kernel) (by decide +kernel) (by decide +kernel))
  | ((with_reducible show EvS _ _ (.Name "by" _) _ _); exact ownF (by assumption) 2 (by rfl) rfl (by decide +kernel) (by decide +kernel) (by decide +kernel)))
local macro_rules | `(tactic| wtm_at "ownl") => `(tactic| first
  | ((with_reducible show EvL _ _ (.Name "cell" _) _); exact ownlF (by assumption) 0 (by rfl) rfl (by decide +kernel) (by decide +kernel) (by decide +kernel))
  | ((with_reducible show EvL _ _ (.Name "n" _) _); exact ownlF (by assumption) 1 (by rfl) rfl (by decide +kernel) (by decide +kernel) (by decide +kernel))
  | ((with_reducible show EvL _ _ (.Name "by" _) _); exact ownlF (by assumption) 2 (by rfl) rfl (by decide +kernel) (by decide +kernel) (by decide +kernel)))
local macro_rules | `(tactic| wtm_at "set") => `(tactic| first
  | ((with_reducible show S1 _ _ (.Assign [.Name "cell" _] _ _) _); refine' setF ?st1 ?st2 0 ?st3 ?st4 ?ste ?st5; (case' st1 => assumption); (case' st2 => assumption); (case' st3 => rfl); (case' st4 => decide +kernel); (case' ste => wtm_at "ev"); (case' st5 => rfl))
  | ((with_reducible show S1 _ _ (.Assign [.Name "n" _] _ _) _); refine' setF ?st1 ?st2 1 ?st3 ?st4 ?ste ?st5; (case' st1 => assumption); (case' st2 => assumption); (case' st3 => rfl); (case' st4 => decide +kernel); (case' ste => wtm_at "ev"); (case' st5 => rfl)))
local macro_rules | `(tactic| wtm_at "app") => `(tactic| first
  | ((with_reducible show S1 _ _ (.Expr (.Call (.Attribute (.Name "cell" _) _ _) _ _ _) _) _); refine' appF ?ap1 0 ?ap2 ?ap3 ?ap4 ?ape ?aps ?ap5 ?ap6; (case' ap1 => assumption); (case' ap2 => rfl); (case' ap3 => rfl); (case' ap4 => decide +kernel); (case' ape => wtm_at "ev"); (case' aps => try (wtm_at "sz")); (case' ap5 => decide +kernel); (case' ap6 => decide +kernel))
  | ((with_reducible show S1 _ _ (.Expr (.Call (.Attribute (.Name "n" _) _ _) _ _ _) _) _); refine' appF ?ap1 1 ?ap2 ?ap3 ?ap4 ?ape ?aps ?ap5 ?ap6; (case' ap1 => assumption); (case' ap2 => rfl); (case' ap3 => rfl); (case' ap4 => decide +kernel); (case' ape => wtm_at "ev"); (case' aps => try (wtm_at "sz")); (case' ap5 => decide +kernel); (case' ap6 => decide +kernel)))
local macro_rules | `(tactic| wtm_at "put") => `(tactic| first
  | ((with_reducible show S1 _ _ (.Assign [.Subscript (.Name "cell" _) _ _] _ _) _); refine' putF ?pu1 0 ?pu2 ?pu3 ?pu4 ?pue ?pui ?pu5 ?pu6 ?pu7 ?pu8; (case' pu1 => assumption); (case' pu2 => rfl); (case' pu3 => rfl); (case' pu4 => decide +kernel); (case' pue => wtm_at "ev"); (case' pui => wtm_at "ev"); (case' pu5 => try (wtm_at "sd")); (case' pu6 => try (wtm_at "sd")); (case' pu7 => decide +kernel); (case' pu8 => decide +kernel))
  | ((with_reducible show S1 _ _ (.Assign [.Subscript (.Name "n" _) _ _] _ _) _); refine' putF ?pu1 1 ?pu2 ?pu3 ?pu4 ?pue ?pui ?pu5 ?pu6 ?pu7 ?pu8; (case' pu1 => assumption); (case' pu2 => rfl); (case' pu3 => rfl); (case' pu4 => decide +kernel); (case' pue => wtm_at "ev"); (case' pui => wtm_at "ev"); (case' pu5 => try (wtm_at "sd")); (case' pu6 => try (wtm_at "sd")); (case' pu7 => decide +kernel); (case' pu8 => decide +kernel)))
local macro_rules | `(tactic| wtm_at "reto") => `(tactic| first
  | ((with_reducible show S1 _ _ (.Return (some (.Name "cell" _)) _) _); exact retOF (by assumption) 0 (by rfl) rfl (by decide +kernel) (by decide +kernel) (by decide +kernel))
  | ((with_reducible show S1 _ _ (.Return (some (.Name "n" _)) _) _); exact retOF (by assumption) 1 (by rfl) rfl (by decide +kernel) (by decide +kernel) (by decide +kernel)))
local macro_rules | `(tactic| wtm_at "tgt") => `(tactic| first
  | ((with_reducible show PG _ (.Name "cell" _) _); exact tgF (by assumption) (by assumption) 0 (by rfl) (by decide +kernel))
  | ((with_reducible show PG _ (.Name "n" _) _); exact tgF (by assumption) (by assumption) 1 (by rfl) (by decide +kernel)))
theorem ok_prime {f : Addr} {fd : FuncData} (F : Fun K "_law_prime" "_law_prime" s__law_prime f fd) (hm : mg "_law_prime" = some (.ref f)) (b : Binds K fd ["cell"] []) (ma : mg "any" = none) (mr : mg "range" = none) : Fn P w K mg base 1 "_law_prime" ["cell"] rPrime := by
  refine fnF F hm b sc__law_prime (fun ds r h => by cases h; rfl) fun X hX hT ds r h => ?_
  cases h with
  | @mk c =>
    by_cases hc : c % 2 = 0
    · refine' sm_end (s1_if ?c (fun _ => sm_end ?s1) fun h => ?f)
      case' c => wtm_at "test"
      case f => simp [hc] at h
      case' s1 =>
        rw [lawPrime, if_pos hc]
        refine' s1_ret ?ra
        case' ra =>
          refine' ev_atD (ds := ([3, 5, 7, 11, 13, 17, 19, 23] : List Int).map .int) ?a ?b ?r ?x
          case' x => exact fun _ _ => rfl
          case' a =>
            refine' evs_tup ?a0
            case' a0 =>
              refine' ev_tup ?b1 ?b2
              case' b1 => wtm_at "args"
              case' b2 => decide +kernel
          case' b => wtm_at "ev"
          case' r => wtm_at "ix"
    · refine' sm_cons (s1_if ?c2 (fun h => ?f2) fun _ => sm_nil) ?_
      case' c2 => wtm_at "test"
      case f2 => simp [hc] at h
      rw [lawPrime, if_neg hc]
      refine' sm_cons ?sn ?_
      case' sn => wtm_at "st"
      generalize hn : 3 + c / 2 % 9971 = n
      obtain ⟨m, n1, n2, n3, n4⟩ := nextP_ok (n := n) (by omega) (by omega)
      rw [n3]
      refine' sm_cons ?w ?_
      case' w =>
        refine' whileV hX (fun i => [.dat (.int c), .dat (.int (n + i)), .un]) m (fun i => smooth (n + i)) ?l (fun i _ => ?t) n1 n2 fun i hi => ?s2
        case' l => wtm_at "le"
        case' t =>
          refine' et_ev ?v0
          case' v0 =>
           refine' ev_eq ?v1 ?e0
           case' v1 =>
            refine' anyF hX ?g0 ma ?s0
            case' g0 => decide +kernel
          case' s0 =>
            refine' evs_eq (evs_new ?a2) ?e2
            case' a2 =>
              refine' lcIf hX 2 (List.range 98) (fun j : Nat => .int (2 + (j : Int))) (fun j : Nat => decide (2 + (j : Int) < n + i)) (fun j : Nat => .bool (decide ((n + i) % (2 + (j : Int)) = 0))) ?i ?sr ?ok ?nn ?lx ?zz ?jj fun Y hY z hz => ⟨?t1, fun _ => ?e1⟩
              case' i => wtm_at "iter"
              case' sr => rfl
              case' ok => decide +kernel
              case' nn => rfl
              case' lx => decide +kernel
              case' zz => decide +kernel
              case' jj => rfl
              case' t1 => wtm_at "test"
              case' e1 => wtm_at "ev"
            case e2 => exact (List.map_map (f := fun j : Nat => decide ((n + i) % (2 + (j : Int)) = 0)) (g := PyData.bool)).symm
          case e0 => simp [smooth, List.any_map, Function.comp_def]
        case' s2 =>
          refine' sm_le (sm_one ?s3) ?l3
          case' s3 => wtm_at "st"
          case' l3 => wtm_at "le"
      refine' sm_end ?s4
      case' s4 => wtm_at "st"
/-! digits -/
def dcell (c P : Int) : Nat → Int
  | 0 => c
  | k + 1 => dcell c P k / P
def lawDigits (c P : Int) (n : Nat) : List Int := (List.range n).map fun j => dcell c P j % P
theorem lawDigits_succ (c P : Int) (n : Nat) : lawDigits c P (n + 1) = lawDigits c P n ++ [dcell c P n % P] := by
  unfold lawDigits; rw [List.range_succ, List.map_append]; rfl
theorem lawDigits_len (c P : Int) (n : Nat) : (lawDigits c P n).length = n := by simp [lawDigits]
theorem lawDigits_mem {c P : Int} {n : Nat} (hP : 0 < P) : ∀ x ∈ lawDigits c P n, 0 ≤ x ∧ x < P := fun x hx => by
  unfold lawDigits at hx
  rw [List.mem_map] at hx
  obtain ⟨j, _, rfl⟩ := hx
  exact ⟨Int.emod_nonneg _ (by omega), Int.emod_lt_of_pos _ hP⟩
inductive rDigits : List PyData → Res → Prop
  | mk {c P n : Int} (h : 0 < P) (h2 : P < 1073741824) (h0 : 0 ≤ n) (hn : n ≤ 1000) : rDigits [.int c, .int P, .int n] (.ok (.dat (tI (lawDigits c P n.toNat))))
local macro_rules | `(tactic| wtm_at "nm") => `(tactic| first
  | ((with_reducible show Ev _ _ (.Name "cell" _) _); exact nmF (by assumption) 0 (by rfl) rfl (by decide +kernel) (by decide +kernel) (by decide +kernel))
  | ((with_reducible show Ev _ _ (.Name "P" _) _); exact nmF (by assumption) 1 (by rfl) rfl (by decide +kernel) (by decide +kernel) (by decide +kernel))
  | ((with_reducible show Ev _ _ (.Name "size" _) _); exact nmF (by assumption) 2 (by rfl) rfl (by decide +kernel) (by decide +kernel) (by decide +kernel))
  | ((with_reducible show Ev _ _ (.Name "out" _) _); exact nmF (by assumption) 3 (by rfl) rfl (by decide +kernel) (by decide +kernel) (by decide +kernel))
  | ((with_reducible show Ev _ _ (.Name "k" _) _); exact nmF (by assumption) 4 (by rfl) rfl (by decide +kernel) (by decide +kernel) (by decide +kernel)))
local macro_rules | `(tactic| wtm_at "own") => `(tactic| first
  | ((with_reducible show EvS _ _ (.Name "cell" _) _ _); exact ownF (by assumption) 0 (by rfl) rfl (by decide +kernel) (by decide +kernel) (by decide +kernel))
  | ((with_reducible show EvS _ _ (.Name "P" _) _ _); exact ownF (by assumption) 1 (by rfl) rfl (by decide +kernel) (by decide +kernel) (by decide +kernel))
  | ((with_reducible show EvS _ _ (.Name "size" _) _ _); exact ownF (by assumption) 2 (by rfl) rfl (by decide +kernel) (by decide +kernel) (by decide +kernel))
  | ((with_reducible show EvS _ _ (.Name "out" _) _ _); exact ownF (by assumption) 3 (by rfl) rfl (by decide +kernel) (by decide +kernel) (by decide +kernel))
  | ((with_reducible show EvS _ _ (.Name "k" _) _ _); exact ownF (by assumption) 4 (by rfl) rfl (by decide +kernel) (by decide +kernel) (by decide +kernel)))
local macro_rules | `(tactic| wtm_at "ownl") => `(tactic| first
  | ((with_reducible show EvL _ _ (.Name "cell" _) _); exact ownlF (by assumption) 0 (by rfl) rfl (by decide +kernel) (by decide +kernel) (by decide +kernel))
  | ((with_reducible show EvL _ _ (.Name "P" _) _); exact ownlF (by assumption) 1 (by rfl) rfl (by decide +kernel) (by decide +kernel) (by decide +kernel))
  | ((with_reducible show EvL _ _ (.Name "size" _) _); exact ownlF (by assumption) 2 (by rfl) rfl (by decide +kernel) (by decide +kernel) (by decide +kernel))
  | ((with_reducible show EvL _ _ (.Name "out" _) _); exact ownlF (by assumption) 3 (by rfl) rfl (by decide +kernel) (by decide +kernel) (by decide +kernel))
  | ((with_reducible show EvL _ _ (.Name "k" _) _); exact ownlF (by assumption) 4 (by rfl) rfl (by decide +kernel) (by decide +kernel) (by decide +kernel)))
local macro_rules | `(tactic| wtm_at "set") => `(tactic| first
  | ((with_reducible show S1 _ _ (.Assign [.Name "cell" _] _ _) _); refine' setF ?st1 ?st2 0 ?st3 ?st4 ?ste ?st5; (case' st1 => assumption); (case' st2 => assumption); (case' st3 => rfl); (case' st4 => decide +kernel); (case' ste => wtm_at "ev"); (case' st5 => rfl))
  | ((with_reducible show S1 _ _ (.Assign [.Name "P" _] _ _) _); refine' setF ?st1 ?st2 1 ?st3 ?st4 ?ste ?st5; (case' st1 => assumption); (case' st2 => assumption); (case' st3 => rfl); (case' st4 => decide +kernel); (case' ste => wtm_at "ev"); (case' st5 => rfl))
  | ((with_reducible show S1 _ _ (.Assign [.Name "size" _] _ _) _); refine' setF ?st1 ?st2 2 ?st3 ?st4 ?ste ?st5; (case' st1 => assumption); (case' st2 => assumption); (case' st3 => rfl); (case' st4 => decide +kernel); (case' ste => wtm_at "ev"); (case' st5 => rfl))
  | ((with_reducible show S1 _ _ (.Assign [.Name "out" _] _ _) _); refine' setF ?st1 ?st2 3 ?st3 ?st4 ?ste ?st5; (case' st1 => assumption); (case' st2 => assumption); (case' st3 => rfl); (case' st4 => decide +kernel); (case' ste => wtm_at "ev"); (case' st5 => rfl))
  | ((with_reducible show S1 _ _ (.Assign [.Name "k" _] _ _) _); refine' setF ?st1 ?st2 4 ?st3 ?st4 ?ste ?st5; (case' st1 => assumption); (case' st2 => assumption); (case' st3 => rfl); (case' st4 => decide +kernel); (case' ste => wtm_at "ev"); (case' st5 => rfl)))
local macro_rules | `(tactic| wtm_at "app") => `(tactic| first
  | ((with_reducible show S1 _ _ (.Expr (.Call (.Attribute (.Name "cell" _) _ _) _ _ _) _) _); refine' appF ?ap1 0 ?ap2 ?ap3 ?ap4 ?ape ?aps ?ap5 ?ap6; (case' ap1 => assumption); (case' ap2 => rfl); (case' ap3 => rfl); (case' ap4 => decide +kernel); (case' ape => wtm_at "ev"); (case' aps => try (wtm_at "sz")); (case' ap5 => decide +kernel); (case' ap6 => decide +kernel))
  | ((with_reducible show S1 _ _ (.Expr (.Call (.Attribute (.Name "P" _) _ _) _ _ _) _) _); refine' appF ?ap1 1 ?ap2 ?ap3 ?ap4 ?ape ?aps ?ap5 ?ap6; (case' ap1 => assumption); (case' ap2 => rfl); (case' ap3 => rfl); (case' ap4 => decide +kernel); (case' ape => wtm_at "ev"); (case' aps => try (wtm_at "sz")); (case' ap5 => decide +kernel); (case' ap6 => decide +kernel))
  | ((with_reducible show S1 _ _ (.Expr (.Call (.Attribute (.Name "size" _) _ _) _ _ _) _) _); refine' appF ?ap1 2 ?ap2 ?ap3 ?ap4 ?ape ?aps ?ap5 ?ap6; (case' ap1 => assumption); (case' ap2 => rfl); (case' ap3 => rfl); (case' ap4 => decide +kernel); (case' ape => wtm_at "ev"); (case' aps => try (wtm_at "sz")); (case' ap5 => decide +kernel); (case' ap6 => decide +kernel))
  | ((with_reducible show S1 _ _ (.Expr (.Call (.Attribute (.Name "out" _) _ _) _ _ _) _) _); refine' appF ?ap1 3 ?ap2 ?ap3 ?ap4 ?ape ?aps ?ap5 ?ap6; (case' ap1 => assumption); (case' ap2 => rfl); (case' ap3 => rfl); (case' ap4 => decide +kernel); (case' ape => wtm_at "ev"); (case' aps => try (wtm_at "sz")); (case' ap5 => decide +kernel); (case' ap6 => decide +kernel))
  | ((with_reducible show S1 _ _ (.Expr (.Call (.Attribute (.Name "k" _) _ _) _ _ _) _) _); refine' appF ?ap1 4 ?ap2 ?ap3 ?ap4 ?ape ?aps ?ap5 ?ap6; (case' ap1 => assumption); (case' ap2 => rfl); (case' ap3 => rfl); (case' ap4 => decide +kernel); (case' ape => wtm_at "ev"); (case' aps => try (wtm_at "sz")); (case' ap5 => decide +kernel); (case' ap6 => decide +kernel)))
local macro_rules | `(tactic| wtm_at "put") => `(tactic| first
  | ((with_reducible show S1 _ _ (.Assign [.Subscript (.Name "cell" _) _ _] _ _) _); refine' putF ?pu1 0 ?pu2 ?pu3 ?pu4 ?pue ?pui ?pu5 ?pu6 ?pu7 ?pu8; (case' pu1 => assumption); (case' pu2 => rfl); (case' pu3 => rfl); (case' pu4 => decide +kernel); (case' pue => wtm_at "ev"); (case' pui => wtm_at "ev"); (case' pu5 => try (wtm_at "sd")); (case' pu6 => try (wtm_at "sd")); (case' pu7 => decide +kernel); (case' pu8 => decide +kernel))
  | ((with_reducible show S1 _ _ (.Assign [.Subscript (.Name "P" _) _ _] _ _) _); refine' putF ?pu1 1 ?pu2 ?pu3 ?pu4 ?pue ?pui ?pu5 ?pu6 ?pu7 ?pu8; (case' pu1 => assumption); (case' pu2 => rfl); (case' pu3 => rfl); (case' pu4 => decide +kernel); (case' pue => wtm_at "ev"); (case' pui => wtm_at "ev"); (case' pu5 => try (wtm_at "sd")); (case' pu6 => try (wtm_at "sd")); (case' pu7 => decide +kernel); (case' pu8 => decide +kernel))
  | ((with_reducible show S1 _ _ (.Assign [.Subscript (.Name "size" _) _ _] _ _) _); refine' putF ?pu1 2 ?pu2 ?pu3 ?pu4 ?pue ?pui ?pu5 ?pu6 ?pu7 ?pu8; (case' pu1 => assumption); (case' pu2 => rfl); (case' pu3 => rfl); (case' pu4 => decide +kernel); (case' pue => wtm_at "ev"); (case' pui => wtm_at "ev"); (case' pu5 => try (wtm_at "sd")); (case' pu6 => try (wtm_at "sd")); (case' pu7 => decide +kernel); (case' pu8 => decide +kernel))
  | ((with_reducible show S1 _ _ (.Assign [.Subscript (.Name "out" _) _ _] _ _) _); refine' putF ?pu1 3 ?pu2 ?pu3 ?pu4 ?pue ?pui ?pu5 ?pu6 ?pu7 ?pu8; (case' pu1 => assumption); (case' pu2 => rfl); (case' pu3 => rfl); (case' pu4 => decide +kernel); (case' pue => wtm_at "ev"); (case' pui => wtm_at "ev"); (case' pu5 => try (wtm_at "sd")); (case' pu6 => try (wtm_at "sd")); (case' pu7 => decide +kernel); (case' pu8 => decide +kernel))
  | ((with_reducible show S1 _ _ (.Assign [.Subscript (.Name "k" _) _ _] _ _) _); refine' putF ?pu1 4 ?pu2 ?pu3 ?pu4 ?pue ?pui ?pu5 ?pu6 ?pu7 ?pu8; (case' pu1 => assumption); (case' pu2 => rfl); (case' pu3 => rfl); (case' pu4 => decide +kernel); (case' pue => wtm_at "ev"); (case' pui => wtm_at "ev"); (case' pu5 => try (wtm_at "sd")); (case' pu6 => try (wtm_at "sd")); (case' pu7 => decide +kernel); (case' pu8 => decide +kernel)))
local macro_rules | `(tactic| wtm_at "reto") => `(tactic| first
  | ((with_reducible show S1 _ _ (.Return (some (.Name "cell" _)) _) _); exact retOF (by assumption) 0 (by rfl) rfl (by decide +kernel) (by decide +kernel) (by decide +kernel))
  | ((with_reducible show S1 _ _ (.Return (some (.Name "P" _)) _) _); exact retOF (by assumption) 1 (by rfl) rfl (by decide +kernel) (by decide +kernel) (by decide +kernel))
  | ((with_reducible show S1 _ _ (.Return (some (.Name "size" _)) _) _); exact retOF (by assumption) 2 (by rfl) rfl (by decide +kernel) (by decide +kernel) (by decide +kernel))
  | ((with_reducible show S1 _ _ (.Return (some (.Name "out" _)) _) _); exact retOF (by assumption) 3 (by rfl) rfl (by decide +kernel) (by decide +kernel) (by decide +kernel))
  | ((with_reducible show S1 _ _ (.Return (some (.Name "k" _)) _) _); exact retOF (by assumption) 4 (by rfl) rfl (by decide +kernel) (by decide +kernel) (by decide +kernel)))
local macro_rules | `(tactic| wtm_at "tgt") => `(tactic| first
  | ((with_reducible show PG _ (.Name "cell" _) _); exact tgF (by assumption) (by assumption) 0 (by rfl) (by decide +kernel))
  | ((with_reducible show PG _ (.Name "P" _) _); exact tgF (by assumption) (by assumption) 1 (by rfl) (by decide +kernel))
  | ((with_reducible show PG _ (.Name "size" _) _); exact tgF (by assumption) (by assumption) 2 (by rfl) (by decide +kernel))
  | ((with_reducible show PG _ (.Name "out" _) _); exact tgF (by assumption) (by assumption) 3 (by rfl) (by decide +kernel))
  | ((with_reducible show PG _ (.Name "k" _) _); exact tgF (by assumption) (by assumption) 4 (by rfl) (by decide +kernel)))
theorem ok_digits {f : Addr} {fd : FuncData} (F : Fun K "_law_digits" "_law_digits" s__law_digits f fd) (hm : mg "_law_digits" = some (.ref f)) (b : Binds K fd ["cell", "P", "size"] []) (mt : mg "tuple" = none) (mr : mg "range" = none) : Fn P w K mg base 1 "_law_digits" ["cell", "P", "size"] rDigits := by
  refine fnF F hm b sc__law_digits (fun ds r h => by cases h; rfl) fun X hX hT ds r h => ?_
  cases h with
  | @mk c p n h h2 h0 hn =>
    refine' sm_cons ?s1 ?_
    case' s1 => wtm_at "st"
    refine' sm_cons ?s2 ?_
    case' s2 =>
      refine' forR0 hX (n := n.toNat) 4 (fun i => [.dat (.int (dcell c p i)), .dat (.int p), .dat (.int n), .own (.lst ((lawDigits c p i).map .int)), .un]) ?i rfl ?g ?l (fun _ => rfl) (fun i hi => ?b)
      case' i => wtm_at "iter"
      case' g => wtm_at "tgt"
      case' l => wtm_at "le"
      have hl := lawDigits_len c p i
      refine' sm_cons ?s3 ?_
      case' s3 => wtm_at "st"
      refine' sm_le (sm_one ?s4) ?l4
      case' s4 => wtm_at "st"
      rw [lawDigits_succ, List.map_append]
      wtm_at "le"
    refine' sm_end ?s5
    case' s5 => wtm_at "st"
def isInt : PyData → Bool
  | .int _ => true
  | _ => false
inductive rWhole : List PyData → Res → Prop
  | mk {i : Int} : rWhole [.int i] (.ok (.dat (.bool true)))
end
end W

namespace W
open PySem PySem.Spec PyProof.Rows L2 LR
section
variable {P : Program} {w : World} {K : PySem.W.Frag} {mg : Str → Option Value} {base : Heap}
def lawCount (c : Int) : Int := [c / 3 % 5, c / 3 % 1000, c / 3 % (10 ^ (30 : Int).toNat + 1)].getD (c % 3).toNat 0
theorem lawCount_on (c : Int) : 0 ≤ lawCount c ∧ lawCount c ≤ 1000000000000000000000000000000 := by
  unfold lawCount
  have e : (10 : Int) ^ (30 : Int).toNat + 1 = 1000000000000000000000000000001 := by decide
  rw [e]
  rcases (show c % 3 = 0 ∨ c % 3 = 1 ∨ c % 3 = 2 by omega) with h | h | h <;> rw [h]
  · show 0 ≤ c / 3 % 5 ∧ c / 3 % 5 ≤ _
    omega
  · show 0 ≤ c / 3 % 1000 ∧ c / 3 % 1000 ≤ _
    omega
  · show 0 ≤ c / 3 % 1000000000000000000000000000001 ∧ c / 3 % 1000000000000000000000000000001 ≤ _
    omega
inductive rCount : List PyData → Res → Prop
  | mk {c : Int} : rCount [.int c] (.ok (.dat (.int (lawCount c))))
local macro_rules | `(tactic| wtm_at "nm") => `(tactic| first
  | ((with_reducible show Ev _ _ (.Name "cell" _) _); exact nmF (by assumption) 0 (by rfl) rfl (by decide +kernel) (by decide +kernel) (by decide +kernel)))
local macro_rules | `(tactic| wtm_at "own") => `(tactic| first
  | ((with_reducible show EvS _ _ (.Name "cell" _) _ _); exact ownF (by assumption) 0 (by rfl) rfl (by decide +kernel) (by decide +kernel) (by decide +kernel)))
local macro_rules | `(tactic| wtm_at "ownl") => `(tactic| first
  | ((with_reducible show EvL _ _ (.Name "cell" _) _); exact ownlF (by assumption) 0 (by rfl) rfl (by decide +kernel) (by decide +kernel) (by decide +kernel)))
local macro_rules | `(tactic| wtm_at "set") => `(tactic| first
  | ((with_reducible show S1 _ _ (.Assign [.Name "cell" _] _ _) _); refine' setF ?st1 ?st2 0 ?st3 ?st4 ?ste ?st5; (case' st1 => assumption); (case' st2 => assumption); (case' st3 => rfl); (case' st4 => decide +kernel); (case' ste => wtm_at "ev"); (case' st5 => rfl)))
local macro_rules | `(tactic| wtm_at "app") => `(tactic| first
  | ((with_reducible show S1 _ _ (.Expr (.Call (.Attribute (.Name "cell" _) _ _) _ _ _) _) _); refine' appF ?ap1 0 ?ap2 ?ap3 ?ap4 ?ape ?aps ?ap5 ?ap6; (case' ap1 => assumption); (case' ap2 => rfl); (case' ap3 => rfl); (case' ap4 => decide +kernel); (case' ape => wtm_at "ev"); (case' aps => try (wtm_at "sz")); (case' ap5 => decide +kernel); (case' ap6 => decide +kernel)))
local macro_rules | `(tactic| wtm_at "put") => `(tactic| first
  | ((with_reducible show S1 _ _ (.Assign [.Subscript (.Name "cell" _) _ _] _ _) _); refine' putF ?pu1 0 ?pu2 ?pu3 ?pu4 ?pue ?pui ?pu5 ?pu6 ?pu7 ?pu8; (case' pu1 => assumption); (case' pu2 => rfl); (case' pu3 => rfl); (case' pu4 => decide +kernel); (case' pue => wtm_at "ev"); (case' pui => wtm_at "ev"); (case' pu5 => try (wtm_at "sd")); (case' pu6 => try (wtm_at "sd")); (case' pu7 => decide +kernel); (case' pu8 => decide +kernel)))
local macro_rules | `(tactic| wtm_at "reto") => `(tactic| first
  | ((with_reducible show S1 _ _ (.Return (some (.Name "cell" _)) _) _); exact retOF (by assumption) 0 (by rfl) rfl (by decide +kernel) (by decide +kernel) (by decide +kernel)))
local macro_rules | `(tactic| wtm_at "tgt") => `(tactic| first
  | ((with_reducible show PG _ (.Name "cell" _) _); exact tgF (by assumption) (by assumption) 0 (by rfl) (by decide +kernel)))
theorem ok_count {f : Addr} {fd : FuncData} (F : Fun K "_law_count" "_law_count" s__law_count f fd) (hm : mg "_law_count" = some (.ref f)) (b : Binds K fd ["cell"] []) : Fn P w K mg base 1 "_law_count" ["cell"] rCount := by
  refine fnF F hm b sc__law_count (fun ds r h => by cases h; rfl) fun X hX hT ds r h => ?_
  cases h with
  | @mk c =>
    have cp : CPow 10 30 := ⟨by decide, by decide, by decide⟩
    have h30 : (0 : Int) < 10 ^ (30 : Int).toNat + 1 := by decide
    have c0 : 0 ≤ c % 3 := by omega
    have c1 : c % 3 < 3 := by omega
    refine' sm_end ?s1
    case' s1 => wtm_at "st"
def tabNum (s : List Int) (P a : Int) : Int := (cutS s (some a) none (some 12)).sum % P
def lawTable (s : List Int) (a P : Int) (n : Nat) : List (List Int) := (List.range n).map fun x : Nat => (List.range (n + 1)).map fun k : Nat => tabNum s P (a + 4 * x + k)
theorem lawTable_tbl {s : List Int} {a P : Int} {n : Nat} (h : 0 < P) : Tbl P n (lawTable s a P n) where
  len := by simp [lawTable]
  row := fun f hf => by
    simp only [lawTable, List.mem_map] at hf
    obtain ⟨x, _, rfl⟩ := hf
    refine ⟨by simp, fun y hy => ?_⟩
    simp only [List.mem_map] at hy
    obtain ⟨k, _, rfl⟩ := hy
    exact ⟨Int.emod_nonneg _ (by omega), Int.emod_lt_of_pos _ h⟩
inductive rTable : List PyData → Res → Prop
  | mk {s : List Int} {a P : Int} {n : Nat} (h : 0 < P) (hn : n ≤ 100) : rTable [.list (s.map .int), .int a, .int P, .int n] (.ok (.dat (tT (lawTable s a P n))))
end
end W

namespace W
open PySem PySem.Spec PyProof.Rows L2 LR
/-! items -/
inductive Item where
  | set (x : Int) (f : List Int)
  | again (n : Int) (its : List Item)
mutual
def Item.enc : Item → PyData
  | .set x f => .tuple [.str "set", .int x, tI f]
  | .again n its => .tuple [.str "again", .int n, .tuple (encs its)]
def encs : List Item → List PyData
  | [] => []
  | i :: r => i.enc :: encs r
end
theorem encs_map : ∀ its, encs its = its.map Item.enc
  | [] => by simp [encs]
  | i :: r => by rw [encs, List.map_cons, encs_map r]
abbrev tIt (its : List Item) : PyData := .tuple (its.map Item.enc)
theorem enc_set (x : Int) (f : List Int) : (Item.set x f).enc = .tuple [.str "set", .int x, tI f] := by rw [Item.enc]
theorem enc_again (n : Int) (its : List Item) : (Item.again n its).enc = .tuple [.str "again", .int n, tIt its] := by rw [Item.enc, encs_map]
mutual
/-- how many agains stand within one another -/
def Item.lev : Item → Nat
  | .set _ _ => 0
  | .again _ its => 1 + levs its
def levs : List Item → Nat
  | [] => 0
  | i :: r => max i.lev (levs r)
end
mutual
def Item.cnt : Item → Nat
  | .set _ _ => 1
  | .again _ its => 1 + cnts its
def cnts : List Item → Nat
  | [] => 0
  | i :: r => i.cnt + cnts r
end
mutual
/-- an item of a program -/
def Item.Good (P : Int) (n : Nat) : Item → Prop
  | .set x f => 0 ≤ x ∧ x < n ∧ f.length = n + 1 ∧ OnW P f
  | .again m its => 0 ≤ m ∧ m ≤ 1000000000000000000000000000000 ∧ Goods P n its
def Goods (P : Int) (n : Nat) : List Item → Prop
  | [] => True
  | i :: r => i.Good P n ∧ Goods P n r
end
theorem lev_set {x : Int} {f : List Int} : (Item.set x f).lev = 0 := by rw [Item.lev]
theorem lev_again {n : Int} {its : List Item} : (Item.again n its).lev = 1 + levs its := by rw [Item.lev]
theorem levs_nil : levs [] = 0 := by rw [levs]
theorem levs_cons {i : Item} {r : List Item} : levs (i :: r) = max i.lev (levs r) := by rw [levs]
theorem cnt_set {x : Int} {f : List Int} : (Item.set x f).cnt = 1 := by rw [Item.cnt]
theorem cnt_again {n : Int} {its : List Item} : (Item.again n its).cnt = 1 + cnts its := by rw [Item.cnt]
theorem cnts_nil : cnts [] = 0 := by rw [cnts]
theorem cnts_cons {i : Item} {r : List Item} : cnts (i :: r) = i.cnt + cnts r := by rw [cnts]
theorem good_set {P : Int} {n : Nat} {x : Int} {f : List Int} : (Item.set x f).Good P n ↔ 0 ≤ x ∧ x < n ∧ f.length = n + 1 ∧ OnW P f := by rw [Item.Good]
theorem good_again {P : Int} {n : Nat} {m : Int} {its : List Item} : (Item.again m its).Good P n ↔ 0 ≤ m ∧ m ≤ 1000000000000000000000000000000 ∧ Goods P n its := by rw [Item.Good]
theorem goods_iff {P : Int} {n : Nat} : ∀ {its : List Item}, Goods P n its ↔ ∀ i ∈ its, i.Good P n
  | [] => by simp [Goods]
  | i :: r => by rw [Goods, goods_iff (its := r)]; simp
theorem levs_le {d : Nat} : ∀ {its : List Item}, levs its ≤ d ↔ ∀ i ∈ its, i.lev ≤ d
  | [] => by simp [levs]
  | i :: r => by
    rw [levs_cons, Nat.max_le, levs_le (its := r)]
    simp
theorem lev_le_levs {its : List Item} {i : Item} (h : i ∈ its) : i.lev ≤ levs its := levs_le.mp (Nat.le_refl _) i h
theorem cnts_append : ∀ (a b : List Item), cnts (a ++ b) = cnts a + cnts b
  | [], b => by rw [cnts_nil, Nat.zero_add]; rfl
  | i :: r, b => by
    show cnts (i :: (r ++ b)) = _
    rw [cnts_cons, cnts_cons, cnts_append r b, Nat.add_assoc]
theorem cnts_split (k : Nat) (a : List Item) : cnts (a.take k) + cnts (a.drop k) = cnts a := by rw [← cnts_append, List.take_append_drop]
theorem len_le_cnts : ∀ a : List Item, a.length ≤ cnts a
  | [] => by rw [cnts_nil]; exact Nat.le_refl _
  | i :: r => by
    rw [cnts_cons, List.length_cons]
    have := len_le_cnts r
    have : 1 ≤ i.cnt := by
      cases i with
      | set x f => rw [cnt_set]; exact Nat.le_refl _
      | again n its => rw [cnt_again]; omega
    omega
theorem goods_take {P : Int} {n k : Nat} {a : List Item} (h : Goods P n a) : Goods P n (a.take k) := goods_iff.mpr fun i hi => goods_iff.mp h i (List.mem_of_mem_take hi)
theorem goods_drop {P : Int} {n k : Nat} {a : List Item} (h : Goods P n a) : Goods P n (a.drop k) := goods_iff.mpr fun i hi => goods_iff.mp h i (List.mem_of_mem_drop hi)
theorem goods_append {P : Int} {n : Nat} {a b : List Item} (h : Goods P n a) (h2 : Goods P n b) : Goods P n (a ++ b) := goods_iff.mpr fun i hi => by
  rcases List.mem_append.mp hi with z | z
  · exact goods_iff.mp h i z
  · exact goods_iff.mp h2 i z
theorem goods_one {P : Int} {n : Nat} {i : Item} (h : i.Good P n) : Goods P n [i] := goods_iff.mpr fun j hj => by rw [List.mem_singleton.mp hj]; exact h
theorem goods_nil {P : Int} {n : Nat} : Goods P n [] := goods_iff.mpr fun _ h => nomatch h
theorem goods_get {P : Int} {n k : Nat} {a : List Item} (h : Goods P n a) (hk : k < a.length) : (a[k]).Good P n := goods_iff.mp h _ (List.getElem_mem hk)
theorem levs_take {k d : Nat} {a : List Item} (h : levs a ≤ d) : levs (a.take k) ≤ d := levs_le.mpr fun i hi => levs_le.mp h i (List.mem_of_mem_take hi)
theorem levs_drop {k d : Nat} {a : List Item} (h : levs a ≤ d) : levs (a.drop k) ≤ d := levs_le.mpr fun i hi => levs_le.mp h i (List.mem_of_mem_drop hi)
theorem levs_append {d : Nat} {a b : List Item} (h : levs a ≤ d) (h2 : levs b ≤ d) : levs (a ++ b) ≤ d := levs_le.mpr fun i hi => by
  rcases List.mem_append.mp hi with z | z
  · exact levs_le.mp h i z
  · exact levs_le.mp h2 i z
theorem levs_one {d : Nat} {i : Item} (h : i.lev ≤ d) : levs [i] ≤ d := levs_le.mpr fun j hj => by rw [List.mem_singleton.mp hj]; exact h
/-! the law's items -/
def setForm (c P : Int) (x : Nat) (f : List Int) : List Int := if f.getD x 0 = 0 ∧ 0 < c / 3 % 6 then f.take x ++ [1 + c / 18 % (P - 1)] ++ f.drop (x + 1) else f
def lawSet (c d P : Int) (n : Nat) : Item := .set (c % n) (setForm c P (c % n).toNat (lawDigits d P (n + 1)))
theorem setForm_len {c P : Int} {x : Nat} {f : List Int} (h : x < f.length) : (setForm c P x f).length = f.length := by
  unfold setForm
  split
  · simp; omega
  · rfl
theorem setForm_on {c P : Int} {x : Nat} {f : List Int} (hP : 1 < P) (h : OnW P f) : OnW P (setForm c P x f) := by
  unfold setForm
  split
  · intro y hy
    rw [List.mem_append, List.mem_append] at hy
    rcases hy with (z | z) | z
    · exact h y (List.mem_of_mem_take z)
    · rw [List.mem_singleton.mp z]
      have a := Int.emod_nonneg (c / 18) (show P - 1 ≠ 0 by omega)
      have b := Int.emod_lt_of_pos (c / 18) (show 0 < P - 1 by omega)
      omega
    · exact h y (List.mem_of_mem_drop z)
  · exact h
theorem lawSet_good {c d P : Int} {n : Nat} (hP : 1 < P) (hn : 1 ≤ n) : (lawSet c d P n).Good P n := by
  have a := Int.emod_nonneg c (show (n : Int) ≠ 0 by omega)
  have b := Int.emod_lt_of_pos c (show 0 < (n : Int) by omega)
  have e : (c % n).toNat < (lawDigits d P (n + 1)).length := by rw [lawDigits_len]; omega
  refine good_set.mpr ⟨a, b, ?_, ?_⟩
  · rw [setForm_len e, lawDigits_len]
  · exact setForm_on hP (lawDigits_mem (by omega))
def fewN (its : List Item) (c : Int) : Nat := its.length - min (c / 4 % 4).toNat its.length
def itemsStep (P : Int) (n : Nat) (st : List Item × Int) (c d : Int) : List Item × Int :=
  if c % 4 = 3 ∧ 1 + levs (st.1.drop (fewN st.1 c)) < 4 ∧ 0 < st.2 then (st.1.take (fewN st.1 c) ++ [.again (lawCount d) (st.1.drop (fewN st.1 c))], st.2 - 1) else (st.1 ++ [lawSet (c / 4) d P n], st.2)
def itemsGo (P : Int) (n : Nat) (cells : List Int) (ag : Int) : Nat → List Item × Int
  | 0 => ([], ag)
  | i + 1 => itemsStep P n (itemsGo P n cells ag i) (cells.getD (2 * i) 0) (cells.getD (2 * i + 1) 0)
def lawItems (P : Int) (n : Nat) (ag : Int) (cells : List Int) : List Item := (itemsGo P n cells ag (min cells.length 60 / 2)).1
theorem itemsStep_good {P : Int} {n : Nat} {st : List Item × Int} {c d : Int} (hP : 1 < P) (hn : 1 ≤ n) (a : Goods P n st.1) (b : levs st.1 ≤ 3) : Goods P n (itemsStep P n st c d).1 ∧ levs (itemsStep P n st c d).1 ≤ 3 ∧ cnts (itemsStep P n st c d).1 = cnts st.1 + 1 := by
  by_cases h : c % 4 = 3 ∧ 1 + levs (st.1.drop (fewN st.1 c)) < 4 ∧ 0 < st.2
  · have e : (itemsStep P n st c d).1 = st.1.take (fewN st.1 c) ++ [.again (lawCount d) (st.1.drop (fewN st.1 c))] := by unfold itemsStep; rw [if_pos h]
    obtain ⟨_, h1, _⟩ := h
    have lc := lawCount_on d
    rw [e]
    refine ⟨goods_append (goods_take a) (goods_one (good_again.mpr ⟨lc.1, lc.2, goods_drop a⟩)), levs_append (levs_take b) (levs_one (by rw [lev_again]; omega)), ?_⟩
    rw [cnts_append, cnts_cons, cnts_nil, cnt_again]
    have := cnts_split (fewN st.1 c) st.1
    omega
  · have e : (itemsStep P n st c d).1 = st.1 ++ [lawSet (c / 4) d P n] := by unfold itemsStep; rw [if_neg h]
    rw [e]
    refine ⟨goods_append a (goods_one (lawSet_good hP hn)), levs_append b (levs_one (by unfold lawSet; rw [lev_set]; omega)), ?_⟩
    rw [cnts_append, cnts_cons, cnts_nil]
    unfold lawSet
    rw [cnt_set]
theorem itemsGo_good {P : Int} {n : Nat} {cells : List Int} {ag : Int} (hP : 1 < P) (hn : 1 ≤ n) : ∀ i, Goods P n (itemsGo P n cells ag i).1 ∧ levs (itemsGo P n cells ag i).1 ≤ 3 ∧ cnts (itemsGo P n cells ag i).1 = i
  | 0 => ⟨goods_nil, by show levs [] ≤ 3; rw [levs_nil]; omega, by show cnts [] = 0; rw [cnts_nil]⟩
  | i + 1 => by
    obtain ⟨a, b, c⟩ := itemsGo_good hP hn (cells := cells) (ag := ag) i
    obtain ⟨a', b', c'⟩ := itemsStep_good (c := cells.getD (2 * i) 0) (d := cells.getD (2 * i + 1) 0) hP hn a b
    rw [c] at c'
    exact ⟨a', b', c'⟩
theorem lawItems_good {P : Int} {n : Nat} {cells : List Int} {ag : Int} (hP : 1 < P) (hn : 1 ≤ n) : Goods P n (lawItems P n ag cells) := (itemsGo_good hP hn _).1
theorem lawItems_lev {P : Int} {n : Nat} {cells : List Int} {ag : Int} (hP : 1 < P) (hn : 1 ≤ n) : levs (lawItems P n ag cells) ≤ 3 := (itemsGo_good hP hn _).2.1
theorem lawItems_cnt {P : Int} {n : Nat} {cells : List Int} {ag : Int} (hP : 1 < P) (hn : 1 ≤ n) : cnts (lawItems P n ag cells) ≤ 30 := by
  unfold lawItems
  rw [(itemsGo_good hP hn _).2.2]
  omega
theorem lawItems_len {P : Int} {n : Nat} {cells : List Int} {ag : Int} (hP : 1 < P) (hn : 1 ≤ n) : (lawItems P n ag cells).length ≤ 30 := Nat.le_trans (len_le_cnts _) (lawItems_cnt hP hn)
section
variable {P : Program} {w : World} {K : PySem.W.Frag} {mg : Str → Option Value} {base : Heap}
inductive rSet : List PyData → Res → Prop
  | mk {c d P : Int} {n : Nat} (h : 2 < P) (h9 : P ≤ 9999) (hn : 1 ≤ n) (hn2 : n ≤ 3) : rSet [.int c, .int d, .int P, .int n] (.ok (.dat (lawSet c d P n).enc))
local macro_rules | `(tactic| wtm_at "nm") => `(tactic| first
  | ((with_reducible show Ev _ _ (.Name "cell" _) _); exact nmF (by assumption) 0 (by rfl) rfl (by decide +kernel) (by decide +kernel) (by decide +kernel))
  | ((with_reducible show Ev _ _ (.Name "more" _) _); exact nmF (by assumption) 1 (by rfl) rfl (by decide +kernel) (by decide +kernel) (by decide +kernel))
  | ((with_reducible show Ev _ _ (.Name "P" _) _); exact nmF (by assumption) 2 (by rfl) rfl (by decide +kernel) (by decide +kernel) (by decide +kernel))
  | ((with_reducible show Ev _ _ (.Name "many" _) _); exact nmF (by assumption) 3 (by rfl) rfl (by decide +kernel) (by decide +kernel) (by decide +kernel))
  | ((with_reducible show Ev _ _ (.Name "x" _) _); exact nmF (by assumption) 4 (by rfl) rfl (by decide +kernel) (by decide +kernel) (by decide +kernel))
  | ((with_reducible show Ev _ _ (.Name "form" _) _); exact nmF (by assumption) 5 (by rfl) rfl (by decide +kernel) (by decide +kernel) (by decide +kernel)))
local macro_rules | `(tactic| wtm_at "own") => `(tactic| first
  | ((with_reducible show EvS _ _ (.Name "cell" _) _ _); exact ownF (by assumption) 0 (by rfl) rfl (by decide +kernel) (by decide +kernel) (by decide +kernel))
  | ((with_reducible show EvS _ _ (.Name "more" _) _ _); exact ownF (by assumption) 1 (by rfl) rfl (by decide +kernel) (by decide +kernel) (by decide +kernel))
  | ((with_reducible show EvS _ _ (.Name "P" _) _ _); exact ownF (by assumption) 2 (by rfl) rfl (by decide +kernel) (by decide +kernel) (by decide +kernel))
  | ((with_reducible show EvS _ _ (.Name "many" _) _ _); exact ownF (by assumption) 3 (by rfl) rfl (by decide +kernel) (by decide +kernel) (by decide +kernel))
  | ((with_reducible show EvS _ _ (.Name "x" _) _ _); exact ownF (by assumption) 4 (by rfl) rfl (by decide +kernel) (by decide +kernel) (by decide +kernel))
  | ((with_reducible show EvS _ _ (.Name "form" _) _ _); exact ownF (by assumption) 5 (by rfl) rfl (by decide +kernel) (by decide +kernel) (by decide +kernel)))
local macro_rules | `(tactic| wtm_at "ownl") => `(tactic| first
  | ((with_reducible show EvL _ _ (.Name "cell" _) _); exact ownlF (by assumption) 0 (by rfl) rfl (by decide +kernel) (by decide +kernel) (by decide +kernel))
  | ((with_reducible show EvL _ _ (.Name "more" _) _); exact ownlF (by assumption) 1 (by rfl) rfl (by decide +kernel) (by decide +kernel) (by decide +kernel))
  | ((with_reducible show EvL _ _ (.Name "P" _) _); exact ownlF (by assumption) 2 (by rfl) rfl (by decide +kernel) (by decide +kernel) (by decide +kernel))
  | ((with_reducible show EvL _ _ (.Name "many" _) _); exact ownlF (by assumption) 3 (by rfl) rfl (by decide +kernel) (by decide +kernel) (by decide +kernel))
  | ((with_reducible show EvL _ _ (.Name "x" _) _); exact ownlF (by assumption) 4 (by rfl) rfl (by decide +kernel) (by decide +kernel) (by decide +kernel))
  | ((with_reducible show EvL _ _ (.Name "form" _) _); exact ownlF (by assumption) 5 (by rfl) rfl (by decide +kernel) (by decide +kernel) (by decide +kernel)))
local macro_rules | `(tactic| wtm_at "set") => `(tactic| first
  | ((with_reducible show S1 _ _ (.Assign [.Name "cell" _] _ _) _); refine' setF ?st1 ?st2 0 ?st3 ?st4 ?ste ?st5; (case' st1 => assumption); (case' st2 => assumption); (case' st3 => rfl); (case' st4 => decide +kernel); (case' ste => wtm_at "ev"); (case' st5 => rfl))
  | ((with_reducible show S1 _ _ (.Assign [.Name "more" _] _ _) _); refine' setF ?st1 ?st2 1 ?st3 ?st4 ?ste ?st5; (case' st1 => assumption); (case' st2 => assumption); (case' st3 => rfl); (case' st4 => decide +kernel); (case' ste => wtm_at "ev"); (case' st5 => rfl))
  | ((with_reducible show S1 _ _ (.Assign [.Name "P" _] _ _) _); refine' setF ?st1 ?st2 2 ?st3 ?st4 ?ste ?st5; (case' st1 => assumption); (case' st2 => assumption); (case' st3 => rfl); (case' st4 => decide +kernel); (case' ste => wtm_at "ev"); (case' st5 => rfl))
  | ((with_reducible show S1 _ _ (.Assign [.Name "many" _] _ _) _); refine' setF ?st1 ?st2 3 ?st3 ?st4 ?ste ?st5; (case' st1 => assumption); (case' st2 => assumption); (case' st3 => rfl); (case' st4 => decide +kernel); (case' ste => wtm_at "ev"); (case' st5 => rfl))
  | ((with_reducible show S1 _ _ (.Assign [.Name "x" _] _ _) _); refine' setF ?st1 ?st2 4 ?st3 ?st4 ?ste ?st5; (case' st1 => assumption); (case' st2 => assumption); (case' st3 => rfl); (case' st4 => decide +kernel); (case' ste => wtm_at "ev"); (case' st5 => rfl))
  | ((with_reducible show S1 _ _ (.Assign [.Name "form" _] _ _) _); refine' setF ?st1 ?st2 5 ?st3 ?st4 ?ste ?st5; (case' st1 => assumption); (case' st2 => assumption); (case' st3 => rfl); (case' st4 => decide +kernel); (case' ste => wtm_at "ev"); (case' st5 => rfl)))
local macro_rules | `(tactic| wtm_at "app") => `(tactic| first
  | ((with_reducible show S1 _ _ (.Expr (.Call (.Attribute (.Name "cell" _) _ _) _ _ _) _) _); refine' appF ?ap1 0 ?ap2 ?ap3 ?ap4 ?ape ?aps ?ap5 ?ap6; (case' ap1 => assumption); (case' ap2 => rfl); (case' ap3 => rfl); (case' ap4 => decide +kernel); (case' ape => wtm_at "ev"); (case' aps => try (wtm_at "sz")); (case' ap5 => decide +kernel); (case' ap6 => decide +kernel))
  | ((with_reducible show S1 _ _ (.Expr (.Call (.Attribute (.Name "more" _) _ _) _ _ _) _) _); refine' appF ?ap1 1 ?ap2 ?ap3 ?ap4 ?ape ?aps ?ap5 ?ap6; (case' ap1 => assumption); (case' ap2 => rfl); (case' ap3 => rfl); (case' ap4 => decide +kernel); (case' ape => wtm_at "ev"); (case' aps => try (wtm_at "sz")); (case' ap5 => decide +kernel); (case' ap6 => decide +kernel))
  | ((with_reducible show S1 _ _ (.Expr (.Call (.Attribute (.Name "P" _) _ _) _ _ _) _) _); refine' appF ?ap1 2 ?ap2 ?ap3 ?ap4 ?ape ?aps ?ap5 ?ap6; (case' ap1 => assumption); (case' ap2 => rfl); (case' ap3 => rfl); (case' ap4 => decide +kernel); (case' ape => wtm_at "ev"); (case' aps => try (wtm_at "sz")); (case' ap5 => decide +kernel); (case' ap6 => decide +kernel))
  | ((with_reducible show S1 _ _ (.Expr (.Call (.Attribute (.Name "many" _) _ _) _ _ _) _) _); refine' appF ?ap1 3 ?ap2 ?ap3 ?ap4 ?ape ?aps ?ap5 ?ap6; (case' ap1 => assumption); (case' ap2 => rfl); (case' ap3 => rfl); (case' ap4 => decide +kernel); (case' ape => wtm_at "ev"); (case' aps => try (wtm_at "sz")); (case' ap5 => decide +kernel); (case' ap6 => decide +kernel))
  | ((with_reducible show S1 _ _ (.Expr (.Call (.Attribute (.Name "x" _) _ _) _ _ _) _) _); refine' appF ?ap1 4 ?ap2 ?ap3 ?ap4 ?ape ?aps ?ap5 ?ap6; (case' ap1 => assumption); (case' ap2 => rfl); (case' ap3 => rfl); (case' ap4 => decide +kernel); (case' ape => wtm_at "ev"); (case' aps => try (wtm_at "sz")); (case' ap5 => decide +kernel); (case' ap6 => decide +kernel))
  | ((with_reducible show S1 _ _ (.Expr (.Call (.Attribute (.Name "form" _) _ _) _ _ _) _) _); refine' appF ?ap1 5 ?ap2 ?ap3 ?ap4 ?ape ?aps ?ap5 ?ap6; (case' ap1 => assumption); (case' ap2 => rfl); (case' ap3 => rfl); (case' ap4 => decide +kernel); (case' ape => wtm_at "ev"); (case' aps => try (wtm_at "sz")); (case' ap5 => decide +kernel); (case' ap6 => decide +kernel)))
local macro_rules | `(tactic| wtm_at "put") => `(tactic| first
  | ((with_reducible show S1 _ _ (.Assign [.Subscript (.Name "cell" _) _ _] _ _) _); refine' putF ?pu1 0 ?pu2 ?pu3 ?pu4 ?pue ?pui ?pu5 ?pu6 ?pu7 ?pu8; (case' pu1 => assumption); (case' pu2 => rfl); (case' pu3 => rfl); (case' pu4 => decide +kernel); (case' pue => wtm_at "ev"); (case' pui => wtm_at "ev"); (case' pu5 => try (wtm_at "sd")); (case' pu6 => try (wtm_at "sd")); (case' pu7 => decide +kernel); (case' pu8 => decide +kernel))
  | ((with_reducible show S1 _ _ (.Assign [.Subscript (.Name "more" _) _ _] _ _) _); refine' putF ?pu1 1 ?pu2 ?pu3 ?pu4 ?pue ?pui ?pu5 ?pu6 ?pu7 ?pu8; (case' pu1 => assumption); (case' pu2 => rfl); (case' pu3 => rfl); (case' pu4 => decide +kernel); (case' pue => wtm_at "ev"); (case' pui => wtm_at "ev"); (case' pu5 => try (wtm_at "sd")); (case' pu6 => try (wtm_at "sd")); (case' pu7 => decide +kernel); (case' pu8 => decide +kernel))
  | ((with_reducible show S1 _ _ (.Assign [.Subscript (.Name "P" _) _ _] _ _) _); refine' putF ?pu1 2 ?pu2 ?pu3 ?pu4 ?pue ?pui ?pu5 ?pu6 ?pu7 ?pu8; (case' pu1 => assumption); (case' pu2 => rfl); (case' pu3 => rfl); (case' pu4 => decide +kernel); (case' pue => wtm_at "ev"); (case' pui => wtm_at "ev"); (case' pu5 => try (wtm_at "sd")); (case' pu6 => try (wtm_at "sd")); (case' pu7 => decide +kernel); (case' pu8 => decide +kernel))
  | ((with_reducible show S1 _ _ (.Assign [.Subscript (.Name "many" _) _ _] _ _) _); refine' putF ?pu1 3 ?pu2 ?pu3 ?pu4 ?pue ?pui ?pu5 ?pu6 ?pu7 ?pu8; (case' pu1 => assumption); (case' pu2 => rfl); (case' pu3 => rfl); (case' pu4 => decide +kernel); (case' pue => wtm_at "ev"); (case' pui => wtm_at "ev"); (case' pu5 => try (wtm_at "sd")); (case' pu6 => try (wtm_at "sd")); (case' pu7 => decide +kernel); (case' pu8 => decide +kernel))
  | ((with_reducible show S1 _ _ (.Assign [.Subscript (.Name "x" _) _ _] _ _) _); refine' putF ?pu1 4 ?pu2 ?pu3 ?pu4 ?pue ?pui ?pu5 ?pu6 ?pu7 ?pu8; (case' pu1 => assumption); (case' pu2 => rfl); (case' pu3 => rfl); (case' pu4 => decide +kernel); (case' pue => wtm_at "ev"); (case' pui => wtm_at "ev"); (case' pu5 => try (wtm_at "sd")); (case' pu6 => try (wtm_at "sd")); (case' pu7 => decide +kernel); (case' pu8 => decide +kernel))
  | ((with_reducible show S1 _ _ (.Assign [.Subscript (.Name "form" _) _ _] _ _) _); refine' putF ?pu1 5 ?pu2 ?pu3 ?pu4 ?pue ?pui ?pu5 ?pu6 ?pu7 ?pu8; (case' pu1 => assumption); (case' pu2 => rfl); (case' pu3 => rfl); (case' pu4 => decide +kernel); (case' pue => wtm_at "ev"); (case' pui => wtm_at "ev"); (case' pu5 => try (wtm_at "sd")); (case' pu6 => try (wtm_at "sd")); (case' pu7 => decide +kernel); (case' pu8 => decide +kernel)))
local macro_rules | `(tactic| wtm_at "reto") => `(tactic| first
  | ((with_reducible show S1 _ _ (.Return (some (.Name "cell" _)) _) _); exact retOF (by assumption) 0 (by rfl) rfl (by decide +kernel) (by decide +kernel) (by decide +kernel))
  | ((with_reducible show S1 _ _ (.Return (some (.Name "more" _)) _) _); exact retOF (by assumption) 1 (by rfl) rfl (by decide +kernel) (by decide +kernel) (by decide +kernel))
  | ((with_reducible show S1 _ _ (.Return (some (.Name "P" _)) _) _); exact retOF (by assumption) 2 (by rfl) rfl (by decide +kernel) (by decide +kernel) (by decide +kernel))
  | ((with_reducible show S1 _ _ (.Return (some (.Name "many" _)) _) _); exact retOF (by assumption) 3 (by rfl) rfl (by decide +kernel) (by decide +kernel) (by decide +kernel))
  | ((with_reducible show S1 _ _ (.Return (some (.Name "x" _)) _) _); exact retOF (by assumption) 4 (by rfl) rfl (by decide +kernel) (by decide +kernel) (by decide +kernel))
  | ((with_reducible show S1 _ _ (.Return (some (.Name "form" _)) _) _); exact retOF (by assumption) 5 (by rfl) rfl (by decide +kernel) (by decide +kernel) (by decide +kernel)))
local macro_rules | `(tactic| wtm_at "tgt") => `(tactic| first
  | ((with_reducible show PG _ (.Name "cell" _) _); exact tgF (by assumption) (by assumption) 0 (by rfl) (by decide +kernel))
  | ((with_reducible show PG _ (.Name "more" _) _); exact tgF (by assumption) (by assumption) 1 (by rfl) (by decide +kernel))
  | ((with_reducible show PG _ (.Name "P" _) _); exact tgF (by assumption) (by assumption) 2 (by rfl) (by decide +kernel))
  | ((with_reducible show PG _ (.Name "many" _) _); exact tgF (by assumption) (by assumption) 3 (by rfl) (by decide +kernel))
  | ((with_reducible show PG _ (.Name "x" _) _); exact tgF (by assumption) (by assumption) 4 (by rfl) (by decide +kernel))
  | ((with_reducible show PG _ (.Name "form" _) _); exact tgF (by assumption) (by assumption) 5 (by rfl) (by decide +kernel)))
theorem ok_set {f : Addr} {fd : FuncData} (F : Fun K "_law_set" "_law_set" s__law_set f fd) (hm : mg "_law_set" = some (.ref f)) (b : Binds K fd ["cell", "more", "P", "many"] []) (Gd : Fn P w K mg base 1 "_law_digits" ["cell", "P", "size"] rDigits) : Fn P w K mg base 2 "_law_set" ["cell", "more", "P", "many"] rSet := by
  refine fnF F hm b sc__law_set (fun ds r h => by cases h; rfl) fun X hX hT ds r h => ?_
  cases h with
  | @mk c d p n h h9 hn hn2 =>
    have p0 : 0 < p := by omega
    have p1 : 0 < p - 1 := by omega
    have n0 : 0 < (n : Int) := by omega
    refine' sm_cons ?s1 ?_
    case' s1 => wtm_at "st"
    have ca := Int.emod_nonneg c (show (n : Int) ≠ 0 by omega)
    have cb := Int.emod_lt_of_pos c n0
    obtain ⟨x, hx, hx2⟩ : ∃ x : Nat, c % (n : Int) = x ∧ x < n := ⟨(c % n).toNat, by omega, by omega⟩
    have es : lawSet c d p n = .set x (setForm c p x (lawDigits d p (n + 1))) := by unfold lawSet; rw [hx, Int.toNat_natCast]
    rw [es, hx]
    refine' sm_cons ?s2 ?_
    case' s2 => wtm_at "st"
    have e1 : ((n : Int) + 1).toNat = n + 1 := by omega
    rw [e1]
    have fl := lawDigits_len d p (n + 1)
    generalize lawDigits d p (n + 1) = g at *
    refine' sm_cons (A1 := [.dat (.int c), .dat (.int d), .dat (.int p), .dat (.int n), .dat (.int x), .dat (tI (setForm c p x g))]) ?s3 ?_
    case' s3 =>
      refine' s1_if ?c3 (fun h3 => ?t3) fun h3 => ?f3
      case' c3 => wtm_at "test"
      case' t3 =>
        have e : setForm c p x g = g.take x ++ [1 + c / 18 % (p - 1)] ++ g.drop (x + 1) := by
          unfold setForm
          rw [if_pos (by simpa [-List.getD_eq_getElem?_getD] using h3)]
        refine' sm_le (sm_one ?s4) ?l4
        case' s4 => wtm_at "st"
        case' l4 =>
          have e2 : ((x : Int) + 1).toNat = x + 1 := by omega
          rw [e, e2, Int.toNat_natCast]
          wtm_at "le"
      case' f3 =>
        have e : setForm c p x g = g := by
          unfold setForm
          rw [if_neg (by simpa [-List.getD_eq_getElem?_getD] using h3)]
        refine' sm_le sm_nil ?l5
        case' l5 => rw [e]; wtm_at "le"
    refine' sm_end (s1_retE ?e9 ?e10)
    case' e9 => wtm_at "ev"
    case e10 => rw [enc_set]
abbrev levI (i : Item) : Int := (i.lev : Int)
theorem levs_mem : ∀ its : List Item, ((levs its : Nat) : Int) ∈ 0 :: its.map levI
  | [] => by rw [levs_nil]; simp
  | i :: r => by
    rw [levs_cons]
    rcases Nat.le_total i.lev (levs r) with z | z
    · rw [Nat.max_eq_right z]
      have := levs_mem r
      rw [List.map_cons]
      simp only [List.mem_cons] at this ⊢
      rcases this with t | t
      · exact .inl t
      · exact .inr (.inr t)
    · rw [Nat.max_eq_left z]
      simp
inductive rItems : List PyData → Res → Prop
  | mk {cells : List Int} {P ag : Int} {n : Nat} (h : 2 < P) (h9 : P ≤ 9999) (hn : 1 ≤ n) (hn2 : n ≤ 3) (hl : cells.length ≤ 63) : rItems [.list (cells.map .int), .int P, .int n, .int ag] (.ok (.dat (tIt (lawItems P n ag cells))))
local macro_rules | `(tactic| wtm_at "nm") => `(tactic| first
  | ((with_reducible show Ev _ _ (.Name "cells" _) _); exact nmF (by assumption) 0 (by rfl) rfl (by decide +kernel) (by decide +kernel) (by decide +kernel))
  | ((with_reducible show Ev _ _ (.Name "P" _) _); exact nmF (by assumption) 1 (by rfl) rfl (by decide +kernel) (by decide +kernel) (by decide +kernel))
  | ((with_reducible show Ev _ _ (.Name "many" _) _); exact nmF (by assumption) 2 (by rfl) rfl (by decide +kernel) (by decide +kernel) (by decide +kernel))
  | ((with_reducible show Ev _ _ (.Name "agains" _) _); exact nmF (by assumption) 3 (by rfl) rfl (by decide +kernel) (by decide +kernel) (by decide +kernel))
  | ((with_reducible show Ev _ _ (.Name "items" _) _); exact nmF (by assumption) 4 (by rfl) rfl (by decide +kernel) (by decide +kernel) (by decide +kernel))
  | ((with_reducible show Ev _ _ (.Name "deep" _) _); exact nmF (by assumption) 5 (by rfl) rfl (by decide +kernel) (by decide +kernel) (by decide +kernel))
  | ((with_reducible show Ev _ _ (.Name "k" _) _); exact nmF (by assumption) 6 (by rfl) rfl (by decide +kernel) (by decide +kernel) (by decide +kernel))
  | ((with_reducible show Ev _ _ (.Name "few" _) _); exact nmF (by assumption) 7 (by rfl) rfl (by decide +kernel) (by decide +kernel) (by decide +kernel))
  | ((with_reducible show Ev _ _ (.Name "level" _) _); exact nmF (by assumption) 8 (by rfl) rfl (by decide +kernel) (by decide +kernel) (by decide +kernel)))
local macro_rules | `(tactic| wtm_at "own") => `(tactic| first
  | ((with_reducible show EvS _ _ (.Name "cells" _) _ _); exact ownF (by assumption) 0 (by rfl) rfl (by decide +kernel) (by decide +kernel) (by decide +kernel))
  | ((with_reducible show EvS _ _ (.Name "P" _) _ _); exact ownF (by assumption) 1 (by rfl) rfl (by decide +kernel) (by decide +kernel) (by decide +kernel))
  | ((with_reducible show EvS _ _ (.Name "many" _) _ _); exact ownF (by assumption) 2 (by rfl) rfl (by decide +kernel) (by decide +kernel) (by decide +kernel))
  | ((with_reducible show EvS _ _ (.Name "agains" _) _ _); exact ownF (by assumption) 3 (by rfl) rfl (by decide +kernel) (by decide +kernel) (by decide +kernel))
  | ((with_reducible show EvS _ _ (.Name "items" _) _ _); exact ownF (by assumption) 4 (by rfl) rfl (by decide +kernel) (by decide +kernel) (by decide +kernel))
  | ((with_reducible show EvS _ _ (.Name "deep" _) _ _); exact ownF (by assumption) 5 (by rfl) rfl (by decide +kernel) (by decide +kernel) (by decide +kernel))
  | ((with_reducible show EvS _ _ (.Name "k" _) _ _); exact ownF (by assumption) 6 (by rfl) rfl (by decide +kernel) (by decide +kernel) (by decide +kernel))
  | ((with_reducible show EvS _ _ (.Name "few" _) _ _); exact ownF (by assumption) 7 (by rfl) rfl (by decide +kernel) (by decide +kernel) (by decide +kernel))
  | ((with_reducible show EvS _ _ (.Name "level" _) _ _); exact ownF (by assumption) 8 (by rfl) rfl (by decide +kernel) (by decide +kernel) (by decide +kernel)))
local macro_rules | `(tactic| wtm_at "ownl") => `(tactic| first
  | ((with_reducible show EvL _ _ (.Name "cells" _) _); exact ownlF (by assumption) 0 (by rfl) rfl (by decide +kernel) (by decide +kernel) (by decide +kernel))
  | ((with_reducible show EvL _ _ (.Name "P" _) _); exact ownlF (by assumption) 1 (by rfl) rfl (by decide +kernel) (by decide +kernel) (by decide +kernel))
  | ((with_reducible show EvL _ _ (.Name "many" _) _); exact ownlF (by assumption) 2 (by rfl) rfl (by decide +kernel) (by decide +kernel) (by decide +kernel))
  | ((with_reducible show EvL _ _ (.Name "agains" _) _); exact ownlF (by assumption) 3 (by rfl) rfl (by decide +kernel) (by decide +kernel) (by decide +kernel))
  | ((with_reducible show EvL _ _ (.Name "items" _) _); exact ownlF (by assumption) 4 (by rfl) rfl (by decide +kernel) (by decide +kernel) (by decide +kernel))
  | ((with_reducible show EvL _ _ (.Name "deep" _) _); exact ownlF (by assumption) 5 (by rfl) rfl (by decide +kernel) (by decide +kernel) (by decide +kernel))
  | ((with_reducible show EvL _ _ (.Name "k" _) _); exact ownlF (by assumption) 6 (by rfl) rfl (by decide +kernel) (by decide +kernel) (by decide +kernel))
  | ((with_reducible show EvL _ _ (.Name "few" _) _); exact ownlF (by assumption) 7 (by rfl) rfl (by decide +kernel) (by decide +kernel) (by decide +kernel))
  | ((with_reducible show EvL _ _ (.Name "level" _) _); exact ownlF (by assumption) 8 (by rfl) rfl (by decide +kernel) (by decide +kernel) (by decide +kernel)))
local macro_rules | `(tactic| wtm_at "set") => `(tactic| first
  | ((with_reducible show S1 _ _ (.Assign [.Name "cells" _] _ _) _); refine' setF ?st1 ?st2 0 ?st3 ?st4 ?ste ?st5; (case' st1 => assumption); (case' st2 => assumption); (case' st3 => rfl); (case' st4 => decide +kernel); (case' ste => wtm_at "ev"); (case' st5 => rfl))
  | ((with_reducible show S1 _ _ (.Assign [.Name "P" _] _ _) _); refine' setF ?st1 ?st2 1 ?st3 ?st4 ?ste ?st5; (case' st1 => assumption); (case' st2 => assumption); (case' st3 => rfl); (case' st4 => decide +kernel); (case' ste => wtm_at "ev"); (case' st5 => rfl))
  | ((with_reducible show S1 _ _ (.Assign [.Name "many" _] _ _) _); refine' setF ?st1 ?st2 2 ?st3 ?st4 ?ste ?st5; (case' st1 => assumption); (case' st2 => assumption); (case' st3 => rfl); (case' st4 => decide +kernel); (case' ste => wtm_at "ev"); (case' st5 => rfl))
  | ((with_reducible show S1 _ _ (.Assign [.Name "agains" _] _ _) _); refine' setF ?st1 ?st2 3 ?st3 ?st4 ?ste ?st5; (case' st1 => assumption); (case' st2 => assumption); (case' st3 => rfl); (case' st4 => decide +kernel); (case' ste => wtm_at "ev"); (case' st5 => rfl))
  | ((with_reducible show S1 _ _ (.Assign [.Name "items" _] _ _) _); refine' setF ?st1 ?st2 4 ?st3 ?st4 ?ste ?st5; (case' st1 => assumption); (case' st2 => assumption); (case' st3 => rfl); (case' st4 => decide +kernel); (case' ste => wtm_at "ev"); (case' st5 => rfl))
  | ((with_reducible show S1 _ _ (.Assign [.Name "deep" _] _ _) _); refine' setF ?st1 ?st2 5 ?st3 ?st4 ?ste ?st5; (case' st1 => assumption); (case' st2 => assumption); (case' st3 => rfl); (case' st4 => decide +kernel); (case' ste => wtm_at "ev"); (case' st5 => rfl))
  | ((with_reducible show S1 _ _ (.Assign [.Name "k" _] _ _) _); refine' setF ?st1 ?st2 6 ?st3 ?st4 ?ste ?st5; (case' st1 => assumption); (case' st2 => assumption); (case' st3 => rfl); (case' st4 => decide +kernel); (case' ste => wtm_at "ev"); (case' st5 => rfl))
  | ((with_reducible show S1 _ _ (.Assign [.Name "few" _] _ _) _); refine' setF ?st1 ?st2 7 ?st3 ?st4 ?ste ?st5; (case' st1 => assumption); (case' st2 => assumption); (case' st3 => rfl); (case' st4 => decide +kernel); (case' ste => wtm_at "ev"); (case' st5 => rfl))
  | ((with_reducible show S1 _ _ (.Assign [.Name "level" _] _ _) _); refine' setF ?st1 ?st2 8 ?st3 ?st4 ?ste ?st5; (case' st1 => assumption); (case' st2 => assumption); (case' st3 => rfl); (case' st4 => decide +kernel); (case' ste => wtm_at "ev"); (case' st5 => rfl)))
local macro_rules | `(tactic| wtm_at "app") => `(tactic| first
  | ((with_reducible show S1 _ _ (.Expr (.Call (.Attribute (.Name "cells" _) _ _) _ _ _) _) _); refine' appF ?ap1 0 ?ap2 ?ap3 ?ap4 ?ape ?aps ?ap5 ?ap6; (case' ap1 => assumption); (case' ap2 => rfl); (case' ap3 => rfl); (case' ap4 => decide +kernel); (case' ape => wtm_at "ev"); (case' aps => try (wtm_at "sz")); (case' ap5 => decide +kernel); (case' ap6 => decide +kernel))
  | ((with_reducible show S1 _ _ (.Expr (.Call (.Attribute (.Name "P" _) _ _) _ _ _) _) _); refine' appF ?ap1 1 ?ap2 ?ap3 ?ap4 ?ape ?aps ?ap5 ?ap6; (case' ap1 => assumption); (case' ap2 => rfl); (case' ap3 => rfl); (case' ap4 => decide +kernel); (case' ape => wtm_at "ev"); (case' aps => try (wtm_at "sz")); (case' ap5 => decide +kernel); (case' ap6 => decide +kernel))
  | ((with_reducible show S1 _ _ (.Expr (.Call (.Attribute (.Name "many" _) _ _) _ _ _) _) _); refine' appF ?ap1 2 ?ap2 ?ap3 ?ap4 ?ape ?aps ?ap5 ?ap6; (case' ap1 => assumption); (case' ap2 => rfl); (case' ap3 => rfl); (case' ap4 => decide +kernel); (case' ape => wtm_at "ev"); (case' aps => try (wtm_at "sz")); (case' ap5 => decide +kernel); (case' ap6 => decide +kernel))
  | ((with_reducible show S1 _ _ (.Expr (.Call (.Attribute (.Name "agains" _) _ _) _ _ _) _) _); refine' appF ?ap1 3 ?ap2 ?ap3 ?ap4 ?ape ?aps ?ap5 ?ap6; (case' ap1 => assumption); (case' ap2 => rfl); (case' ap3 => rfl); (case' ap4 => decide +kernel); (case' ape => wtm_at "ev"); (case' aps => try (wtm_at "sz")); (case' ap5 => decide +kernel); (case' ap6 => decide +kernel))
  | ((with_reducible show S1 _ _ (.Expr (.Call (.Attribute (.Name "items" _) _ _) _ _ _) _) _); refine' appF ?ap1 4 ?ap2 ?ap3 ?ap4 ?ape ?aps ?ap5 ?ap6; (case' ap1 => assumption); (case' ap2 => rfl); (case' ap3 => rfl); (case' ap4 => decide +kernel); (case' ape => wtm_at "ev"); (case' aps => try (wtm_at "sz")); (case' ap5 => decide +kernel); (case' ap6 => decide +kernel))
  | ((with_reducible show S1 _ _ (.Expr (.Call (.Attribute (.Name "deep" _) _ _) _ _ _) _) _); refine' appF ?ap1 5 ?ap2 ?ap3 ?ap4 ?ape ?aps ?ap5 ?ap6; (case' ap1 => assumption); (case' ap2 => rfl); (case' ap3 => rfl); (case' ap4 => decide +kernel); (case' ape => wtm_at "ev"); (case' aps => try (wtm_at "sz")); (case' ap5 => decide +kernel); (case' ap6 => decide +kernel))
  | ((with_reducible show S1 _ _ (.Expr (.Call (.Attribute (.Name "k" _) _ _) _ _ _) _) _); refine' appF ?ap1 6 ?ap2 ?ap3 ?ap4 ?ape ?aps ?ap5 ?ap6; (case' ap1 => assumption); (case' ap2 => rfl); (case' ap3 => rfl); (case' ap4 => decide +kernel); (case' ape => wtm_at "ev"); (case' aps => try (wtm_at "sz")); (case' ap5 => decide +kernel); (case' ap6 => decide +kernel))
  | ((with_reducible show S1 _ _ (.Expr (.Call (.Attribute (.Name "few" _) _ _) _ _ _) _) _); refine' appF ?ap1 7 ?ap2 ?ap3 ?ap4 ?ape ?aps ?ap5 ?ap6; (case' ap1 => assumption); (case' ap2 => rfl); (case' ap3 => rfl); (case' ap4 => decide +kernel); (case' ape => wtm_at "ev"); (case' aps => try (wtm_at "sz")); (case' ap5 => decide +kernel); (case' ap6 => decide +kernel))
  | ((with_reducible show S1 _ _ (.Expr (.Call (.Attribute (.Name "level" _) _ _) _ _ _) _) _); refine' appF ?ap1 8 ?ap2 ?ap3 ?ap4 ?ape ?aps ?ap5 ?ap6; (case' ap1 => assumption); (case' ap2 => rfl); (case' ap3 => rfl); (case' ap4 => decide +kernel); (case' ape => wtm_at "ev"); (case' aps => try (wtm_at "sz")); (case' ap5 => decide +kernel); (case' ap6 => decide +kernel)))
local macro_rules | `(tactic| wtm_at "put") => `(tactic| first
  | ((with_reducible show S1 _ _ (.Assign [.Subscript (.Name "cells" _) _ _] _ _) _); refine' putF ?pu1 0 ?pu2 ?pu3 ?pu4 ?pue ?pui ?pu5 ?pu6 ?pu7 ?pu8; (case' pu1 => assumption); (case' pu2 => rfl); (case' pu3 => rfl); (case' pu4 => decide +kernel); (case' pue => wtm_at "ev"); (case' pui => wtm_at "ev"); (case' pu5 => try (wtm_at "sd")); (case' pu6 => try (wtm_at "sd")); (case' pu7 => decide +kernel); (case' pu8 => decide +kernel))
  | ((with_reducible show S1 _ _ (.Assign [.Subscript (.Name "P" _) _ _] _ _) _); refine' putF ?pu1 1 ?pu2 ?pu3 ?pu4 ?pue ?pui ?pu5 ?pu6 ?pu7 ?pu8; (case' pu1 => assumption); (case' pu2 => rfl); (case' pu3 => rfl); (case' pu4 => decide +kernel); (case' pue => wtm_at "ev"); (case' pui => wtm_at "ev"); (case' pu5 => try (wtm_at "sd")); (case' pu6 => try (wtm_at "sd")); (case' pu7 => decide +kernel); (case' pu8 => decide +kernel))
  | ((with_reducible show S1 _ _ (.Assign [.Subscript (.Name "many" _) _ _] _ _) _); refine' putF ?pu1 2 ?pu2 ?pu3 ?pu4 ?pue ?pui ?pu5 ?pu6 ?pu7 ?pu8; (case' pu1 => assumption); (case' pu2 => rfl); (case' pu3 => rfl); (case' pu4 => decide +kernel); (case' pue => wtm_at "ev"); (case' pui => wtm_at "ev"); (case' pu5 => try (wtm_at "sd")); (case' pu6 => try (wtm_at "sd")); (case' pu7 => decide +kernel); (case' pu8 => decide +kernel))
  | ((with_reducible show S1 _ _ (.Assign [.Subscript (.Name "agains" _) _ _] _ _) _); refine' putF ?pu1 3 ?pu2 ?pu3 ?pu4 ?pue ?pui ?pu5 ?pu6 ?pu7 ?pu8; (case' pu1 => assumption); (case' pu2 => rfl); (case' pu3 => rfl); (case' pu4 => decide +kernel); (case' pue => wtm_at "ev"); (case' pui => wtm_at "ev"); (case' pu5 => try (wtm_at "sd")); (case' pu6 => try (wtm_at "sd")); (case' pu7 => decide +kernel); (case' pu8 => decide +kernel))
  | ((with_reducible show S1 _ _ (.Assign [.Subscript (.Name "items" _) _ _] _ _) _); refine' putF ?pu1 4 ?pu2 ?pu3 ?pu4 ?pue ?pui ?pu5 ?pu6 ?pu7 ?pu8; (case' pu1 => assumption); (case' pu2 => rfl); (case' pu3 => rfl); (case' pu4 => decide +kernel); (case' pue => wtm_at "ev"); (case' pui => wtm_at "ev"); (case' pu5 => try (wtm_at "sd")); (case' pu6 => try (wtm_at "sd")); (case' pu7 => decide +kernel); (case' pu8 => decide +kernel))
  | ((with_reducible show S1 _ _ (.Assign [.Subscript (.Name "deep" _) _ _] _ _) _); refine' putF ?pu1 5 ?pu2 ?pu3 ?pu4 ?pue ?pui ?pu5 ?pu6 ?pu7 ?pu8; (case' pu1 => assumption); (case' pu2 => rfl); (case' pu3 => rfl); (case' pu4 => decide +kernel); (case' pue => wtm_at "ev"); (case' pui => wtm_at "ev"); (case' pu5 => try (wtm_at "sd")); (case' pu6 => try (wtm_at "sd")); (case' pu7 => decide +kernel); (case' pu8 => decide +kernel))
  | ((with_reducible show S1 _ _ (.Assign [.Subscript (.Name "k" _) _ _] _ _) _); refine' putF ?pu1 6 ?pu2 ?pu3 ?pu4 ?pue ?pui ?pu5 ?pu6 ?pu7 ?pu8; (case' pu1 => assumption); (case' pu2 => rfl); (case' pu3 => rfl); (case' pu4 => decide +kernel); (case' pue => wtm_at "ev"); (case' pui => wtm_at "ev"); (case' pu5 => try (wtm_at "sd")); (case' pu6 => try (wtm_at "sd")); (case' pu7 => decide +kernel); (case' pu8 => decide +kernel))
  | ((with_reducible show S1 _ _ (.Assign [.Subscript (.Name "few" _) _ _] _ _) _); refine' putF ?pu1 7 ?pu2 ?pu3 ?pu4 ?pue ?pui ?pu5 ?pu6 ?pu7 ?pu8; (case' pu1 => assumption); (case' pu2 => rfl); (case' pu3 => rfl); (case' pu4 => decide +kernel); (case' pue => wtm_at "ev"); (case' pui => wtm_at "ev"); (case' pu5 => try (wtm_at "sd")); (case' pu6 => try (wtm_at "sd")); (case' pu7 => decide +kernel); (case' pu8 => decide +kernel))
  | ((with_reducible show S1 _ _ (.Assign [.Subscript (.Name "level" _) _ _] _ _) _); refine' putF ?pu1 8 ?pu2 ?pu3 ?pu4 ?pue ?pui ?pu5 ?pu6 ?pu7 ?pu8; (case' pu1 => assumption); (case' pu2 => rfl); (case' pu3 => rfl); (case' pu4 => decide +kernel); (case' pue => wtm_at "ev"); (case' pui => wtm_at "ev"); (case' pu5 => try (wtm_at "sd")); (case' pu6 => try (wtm_at "sd")); (case' pu7 => decide +kernel); (case' pu8 => decide +kernel)))
local macro_rules | `(tactic| wtm_at "reto") => `(tactic| first
  | ((with_reducible show S1 _ _ (.Return (some (.Name "cells" _)) _) _); exact retOF (by assumption) 0 (by rfl) rfl (by decide +kernel) (by decide +kernel) (by decide +kernel))
  | ((with_reducible show S1 _ _ (.Return (some (.Name "P" _)) _) _); exact retOF (by assumption) 1 (by rfl) rfl (by decide +kernel) (by decide +kernel) (by decide +kernel))
  | ((with_reducible show S1 _ _ (.Return (some (.Name "many" _)) _) _); exact retOF (by assumption) 2 (by rfl) rfl (by decide +kernel) (by decide +kernel) (by decide +kernel))
  | ((with_reducible show S1 _ _ (.Return (some (.Name "agains" _)) _) _); exact retOF (by assumption) 3 (by rfl) rfl (by decide +kernel) (by decide +kernel) (by decide +kernel))
  | ((with_reducible show S1 _ _ (.Return (some (.Name "items" _)) _) _); exact retOF (by assumption) 4 (by rfl) rfl (by decide +kernel) (by decide +kernel) (by decide +kernel))
  | ((with_reducible show S1 _ _ (.Return (some (.Name "deep" _)) _) _); exact retOF (by assumption) 5 (by rfl) rfl (by decide +kernel) (by decide +kernel) (by decide +kernel))
  | ((with_reducible show S1 _ _ (.Return (some (.Name "k" _)) _) _); exact retOF (by assumption) 6 (by rfl) rfl (by decide +kernel) (by decide +kernel) (by decide +kernel))
  | ((with_reducible show S1 _ _ (.Return (some (.Name "few" _)) _) _); exact retOF (by assumption) 7 (by rfl) rfl (by decide +kernel) (by decide +kernel) (by decide +kernel))
  | ((with_reducible show S1 _ _ (.Return (some (.Name "level" _)) _) _); exact retOF (by assumption) 8 (by rfl) rfl (by decide +kernel) (by decide +kernel) (by decide +kernel)))
local macro_rules | `(tactic| wtm_at "tgt") => `(tactic| first
  | ((with_reducible show PG _ (.Name "cells" _) _); exact tgF (by assumption) (by assumption) 0 (by rfl) (by decide +kernel))
  | ((with_reducible show PG _ (.Name "P" _) _); exact tgF (by assumption) (by assumption) 1 (by rfl) (by decide +kernel))
  | ((with_reducible show PG _ (.Name "many" _) _); exact tgF (by assumption) (by assumption) 2 (by rfl) (by decide +kernel))
  | ((with_reducible show PG _ (.Name "agains" _) _); exact tgF (by assumption) (by assumption) 3 (by rfl) (by decide +kernel))
  | ((with_reducible show PG _ (.Name "items" _) _); exact tgF (by assumption) (by assumption) 4 (by rfl) (by decide +kernel))
  | ((with_reducible show PG _ (.Name "deep" _) _); exact tgF (by assumption) (by assumption) 5 (by rfl) (by decide +kernel))
  | ((with_reducible show PG _ (.Name "k" _) _); exact tgF (by assumption) (by assumption) 6 (by rfl) (by decide +kernel))
  | ((with_reducible show PG _ (.Name "few" _) _); exact tgF (by assumption) (by assumption) 7 (by rfl) (by decide +kernel))
  | ((with_reducible show PG _ (.Name "level" _) _); exact tgF (by assumption) (by assumption) 8 (by rfl) (by decide +kernel)))
theorem ok_items {f : Addr} {fd : FuncData} (F : Fun K "_law_items" "_law_items" s__law_items f fd) (hm : mg "_law_items" = some (.ref f)) (b : Binds K fd ["cells", "P", "many", "agains"] []) (mr : mg "range" = none) (ml : mg "len" = none) (mmi : mg "min" = none) (mma : mg "max" = none) (mt : mg "tuple" = none)
    (Gc : Fn P w K mg base 1 "_law_count" ["cell"] rCount) (Gs : Fn P w K mg base 2 "_law_set" ["cell", "more", "P", "many"] rSet) : Fn P w K mg base 3 "_law_items" ["cells", "P", "many", "agains"] rItems := by
  refine fnF F hm b sc__law_items (fun ds r h => by cases h; rfl) fun X hX hT ds r h => ?_
  cases h with
  | @mk cells p ag n h h9 hn hn2 hl =>
    have el : ((cells.map PyData.int).length : Int) = cells.length := by simp
    have p1 : 1 < p := by omega
    refine' sm_cons ?s1 ?_
    case' s1 => wtm_at "st"
    refine' sm_cons ?s2 ?_
    case' s2 => wtm_at "st"
    refine' sm_cons ?s3 ?_
    case' s3 =>
      refine' forN hX (n := min cells.length 60 / 2) (fun i : Nat => .int ((2 * i : Nat) : Int)) 6 (fun i => [.dat (.list (cells.map .int)), .dat (.int p), .dat (.int n), .dat (.int (itemsGo p n cells ag i).2), .own (.lst ((itemsGo p n cells ag i).1.map Item.enc)), .own (.lst (((itemsGo p n cells ag i).1.map levI).map .int)), .un, .un, .un]) ?i3 ?r3 ?g3 ?l3 (fun _ => rfl) (fun i hi => ?b3)
      case' i3 =>
        refine' range3F hX (lo := 0) (hi := min ((cells.map PyData.int).length : Int) 60 - 1) (c := 2) (n := min cells.length 60 / 2) ?x1 mr ?x2 (by decide) (by decide) ?x3 ?x4
        case' x1 => decide +kernel
        case' x2 => wtm_at "args"
        case x3 =>
          rw [el]
          exact small_up (by omega) (by omega) (by omega) (by omega) (by omega) (by omega)
        case x4 =>
          rw [el, size_up (by omega)]
          omega
      case r3 =>
        refine List.map_congr_left fun i _ => ?_
        congr 1
        omega
      case' g3 => wtm_at "tgt"
      case' l3 => wtm_at "le"
      obtain ⟨hg, hlv, hc⟩ := itemsGo_good (cells := cells) (ag := ag) p1 hn i
      have hln := len_le_cnts (itemsGo p n cells ag i).1
      rw [hc] at hln
      have est : itemsGo p n cells ag (i + 1) = itemsStep p n (itemsGo p n cells ag i) (cells.getD (2 * i) 0) (cells.getD (2 * i + 1) 0) := rfl
      rw [est]
      clear est
      generalize itemsGo p n cells ag i = st at *
      obtain ⟨its, ag'⟩ := st
      simp only at hg hlv hc hln
      have i2 : i < 30 := by omega
      have hlen1 : (its.map Item.enc).length = its.length := by simp
      have hk1 : 2 * i < cells.length := by omega
      have hk2 : 2 * i + 1 < cells.length := by omega
      have hk3 : (((2 * i : Nat) : Int) + 1).toNat = 2 * i + 1 := by omega
      generalize hC : cells.getD (2 * i) 0 = c
      generalize hD : cells.getD (2 * i + 1) 0 = d
      refine' sm_cons (A1 := [.dat (.list (cells.map .int)), .dat (.int p), .dat (.int n), .dat (.int ag'), .own (.lst (its.map Item.enc)), .own (.lst ((its.map levI).map .int)), .dat (.int ((2 * i : Nat) : Int)), .dat (.int (fewN its c)), .un]) ?s4 ?_
      case' s4 =>
        refine' s1_le ?s5 ?l5
        case' s5 => wtm_at "st"
        case' l5 =>
          have e : (((its.map Item.enc).length : Int) - min (cells.getD (2 * i) 0 / 4 % 4) ((its.map Item.enc).length : Int)) = (fewN its c : Int) := by
            rw [hlen1, hC]; unfold fewN; omega
          rw [e]
          wtm_at "le"
      generalize hF : fewN its c = fw
      refine' sm_cons (A1 := [.dat (.list (cells.map .int)), .dat (.int p), .dat (.int n), .dat (.int ag'), .own (.lst (its.map Item.enc)), .own (.lst ((its.map levI).map .int)), .dat (.int ((2 * i : Nat) : Int)), .dat (.int fw), .dat (.int (1 + (levs (its.drop fw) : Int)))]) ?s6 ?_
      case' s6 =>
        refine' setF hX hT 8 (by rfl) ?q1 ?q2 (by rfl)
        case' q1 => decide +kernel
        case' q2 =>
          refine' ev_bin (d1 := .int 1) (d2 := .int (levs (its.drop fw))) ?m1 ?m2 BinD.add
          case' m1 => wtm_at "ev"
          case' m2 =>
            refine' maxLF hX (ns := 0 :: (its.drop fw).map levI) ?y1 mma ?y2 ?y3 ?y4
            case' y1 => decide +kernel
            case' y2 =>
              refine' evs_eq (evs_new (ev_catL (ds := [.int 0]) (es := ((its.map levI).drop (fw : Int).toNat).map .int) ?z1 ?z2 ?z3)) ?z4
              case' z1 => wtm_at "evL"
              case' z2 => wtm_at "evL"
              case z3 => rw [sizeLine_eq]; simp; omega
              case z4 => simp
            case y3 => exact levs_mem _
            case y4 =>
              intro y hy
              rcases List.mem_cons.mp hy with rfl | hy
              · omega
              · obtain ⟨it, h1, rfl⟩ := List.mem_map.mp hy
                exact Int.ofNat_le.mpr (lev_le_levs h1)
      refine' sm_one ?s7
      case' s7 =>
        refine' s1_if ?c7 (fun h7 => ?t7) fun h7 => ?f7
        case' c7 => wtm_at "test"
        case' t7 =>
          have hst : itemsStep p n (its, ag') c d = (its.take fw ++ [Item.again (lawCount d) (its.drop fw)], ag' - 1) := by
            unfold itemsStep
            rw [hC] at h7
            rw [if_pos (by
              show _ ∧ 1 + levs (its.drop (fewN its c)) < 4 ∧ 0 < ag'
              rw [hF]
              simp only [Bool.and_eq_true, decide_eq_true_eq] at h7
              omega)]
            show (its.take (fewN its c) ++ _, _) = _
            rw [hF]
          rw [hst]
          refine' sm_cons (A1 := [.dat (.list (cells.map .int)), .dat (.int p), .dat (.int n), .dat (.int ag'), .own (.lst ((its.take fw ++ [Item.again (lawCount d) (its.drop fw)]).map Item.enc)), .own (.lst ((its.map levI).map .int)), .dat (.int ((2 * i : Nat) : Int)), .dat (.int fw), .dat (.int (1 + (levs (its.drop fw) : Int)))]) ?s8 ?_
          case' s8 =>
            refine' setF hX hT 4 (by rfl) ?q3 ?q4 (by rfl)
            case' q3 => decide +kernel
            case' q4 =>
              refine' ev_eq (ev_catL (ds := (its.take (fw : Int).toNat).map Item.enc) (es := [.tuple [.str "again", .int (lawCount d), .tuple ((its.drop (fw : Int).toNat).map Item.enc)]]) ?z5 ?z6 ?z7) ?z8
              case' z5 => wtm_at "evL"
              case' z6 =>
                refine' evl_new (ev_lst (ea_cons (ev_tup (ea_cons ?w1 (ea_cons ?w2 (ea_cons ?w3 ea_nil))) ?hz1) ea_nil) ?hz2)
                case hz1 => rw [sizeLine_eq]; simp
                case hz2 => rw [sizeLine_eq]; simp
                case' w1 => wtm_at "ev"
                case' w2 =>
                  refine' ev_eq ?w4 ?w5
                  case' w4 => wtm_at "ev"
                  case w5 => rw [hk3, hD]
                case' w3 => wtm_at "ev"
              case z7 => rw [sizeLine_eq]; simp; omega
              case z8 =>
                rw [List.map_append, List.map_cons, List.map_nil, enc_again, Int.toNat_natCast]
          refine' sm_cons ?s9 ?_
          case' s9 =>
            refine' setF hX hT 5 (by rfl) ?q5 ?q6 (by rfl)
            case' q5 => decide +kernel
            case' q6 =>
              refine' ev_eq (ev_catL (ds := ((its.map levI).take (fw : Int).toNat).map .int) (es := [.int (1 + (levs (its.drop fw) : Int))]) ?z9 ?za ?zb) (c' := .own (.lst (((its.take fw ++ [Item.again (lawCount d) (its.drop fw)]).map levI).map .int))) ?zc
              case' z9 => wtm_at "evL"
              case' za => wtm_at "evL"
              case zb => rw [sizeLine_eq]; simp; omega
              case zc =>
                simp [levI, lev_again]
          refine' sm_le (sm_one ?sa) ?la
          case' sa => wtm_at "st"
          case' la => wtm_at "le"
        case' f7 =>
          have hst : itemsStep p n (its, ag') c d = (its ++ [lawSet (c / 4) d p n], ag') := by
            unfold itemsStep
            rw [hC] at h7
            rw [if_neg (by
              show ¬ (_ ∧ 1 + levs (its.drop (fewN its c)) < 4 ∧ 0 < ag')
              rw [hF]
              intro z
              simp only [Bool.and_eq_false_iff, decide_eq_false_iff_not] at h7
              omega)]
          rw [hst]
          refine' sm_cons (A1 := [.dat (.list (cells.map .int)), .dat (.int p), .dat (.int n), .dat (.int ag'), .own (.lst ((its ++ [lawSet (c / 4) d p n]).map Item.enc)), .own (.lst ((its.map levI).map .int)), .dat (.int ((2 * i : Nat) : Int)), .dat (.int fw), .dat (.int (1 + (levs (its.drop fw) : Int)))]) ?sb ?_
          case' sb =>
            refine' s1_le ?sc ?lc
            case' sc => wtm_at "st"
            case' lc =>
              rw [hk3, hC, hD, List.map_append]
              wtm_at "le"
          refine' sm_le (sm_one ?sd) ?ld
          case' sd => wtm_at "st"
          case' ld =>
            have e0 : ((its ++ [lawSet (c / 4) d p n]).map levI).map PyData.int = (its.map levI).map .int ++ [.int 0] := by
              unfold lawSet
              simp [levI, lev_set]
            rw [e0]
            wtm_at "le"
    refine' sm_end (s1_retE ?e9 ?e10)
    case' e9 => wtm_at "ev"
    case e10 => rfl
end
end W

namespace W
open PySem PySem.Spec PyProof.Rows L2 LR
/-! equal programs -/
noncomputable instance : DecidableEq Item := fun a b => Classical.propDecidable _
mutual
theorem lay_enc : ∀ i : Item, i.enc.canLay0 = true
  | .set x f => by
    rw [enc_set]
    simp only [PyData.canLay0, PyData.canLayAll0, encInt.layAll, Bool.and_true, Bool.true_and]
    decide +kernel
  | .again n its => by
    rw [enc_again]
    simp only [PyData.canLay0, PyData.canLayAll0, lay_encs its, Bool.and_true, Bool.true_and]
    decide +kernel
theorem lay_encs : ∀ its : List Item, PyData.canLayAll0 (its.map Item.enc) = true
  | [] => by simp [PyData.canLayAll0]
  | i :: r => by rw [List.map_cons]; simp only [PyData.canLayAll0, lay_enc i, lay_encs r, Bool.and_true]
end
mutual
theorem dep_enc : ∀ i : Item, i.enc.depth ≤ 2 + 2 * i.lev
  | .set x f => by
    rw [enc_set, lev_set]
    simp only [PyData.depth, PyData.depthAll]
    have := encInt.depAll f
    omega
  | .again n its => by
    rw [enc_again, lev_again]
    simp only [PyData.depth, PyData.depthAll]
    have := dep_encs its
    omega
theorem dep_encs : ∀ its : List Item, PyData.depthAll (its.map Item.enc) ≤ 2 + 2 * levs its
  | [] => by simp [PyData.depthAll]
  | i :: r => by
    rw [List.map_cons, levs_cons]
    simp only [PyData.depthAll]
    have := dep_enc i
    have := dep_encs r
    omega
end
mutual
theorem eqv_enc : ∀ a b : Item, PyData.eqv a.enc b.enc = decide (a = b)
  | .set x f, .set y g => by
    rw [enc_set, enc_set]
    simp only [PyData.eqv, PyData.eqvAll, encInt.eqvAll f g, Bool.and_true]
    by_cases h1 : x = y <;> by_cases h2 : f = g <;> simp [h1, h2]
  | .set x f, .again m js => by
    rw [enc_set, enc_again]
    simp only [PyData.eqv, PyData.eqvAll]
    have e : ¬ Item.set x f = Item.again m js := nofun
    rw [decide_eq_false e]
    have e2 : (("set" : Str) == ("again" : Str)) = false := by decide
    simp [e2]
  | .again n its, .set y g => by
    rw [enc_set, enc_again]
    simp only [PyData.eqv, PyData.eqvAll]
    have e : ¬ Item.again n its = Item.set y g := nofun
    rw [decide_eq_false e]
    have e2 : (("again" : Str) == ("set" : Str)) = false := by decide
    simp [e2]
  | .again n its, .again m js => by
    rw [enc_again, enc_again]
    simp only [PyData.eqv, PyData.eqvAll, eqv_encs its js, Bool.and_true]
    by_cases h1 : n = m <;> by_cases h2 : its = js <;> simp [h1, h2]
theorem eqv_encs : ∀ a b : List Item, PyData.eqvAll (a.map Item.enc) (b.map Item.enc) = decide (a = b)
  | [], [] => by simp [PyData.eqvAll]
  | [], b :: bs => by simp [PyData.eqvAll]
  | a :: as, [] => by simp [PyData.eqvAll]
  | a :: as, b :: bs => by
    rw [List.map_cons, List.map_cons]
    simp only [PyData.eqvAll, eqv_enc a b, eqv_encs as bs]
    by_cases h1 : a = b <;> by_cases h2 : as = bs <;> simp [h1, h2]
end
theorem shaped_its {its : List Item} (h : levs its ≤ 5) : SeqAt.shaped (tIt its) = true := by
  unfold SeqAt.shaped
  have e : (tIt its).canLay0 = true := by simp only [PyData.canLay0]; exact lay_encs its
  rw [e, Bool.true_and]
  refine decide_eq_true ?_
  simp only [PyData.depth]
  have := dep_encs its
  omega
section
variable {P : Program} {w : World} {K : PySem.W.Frag} {mg : Str → Option Value} {base : Heap} {N : List Str} {sc : Scope} {k : Nat} {X : Cx} {b : Expr}
variable (hX : XF P w K mg base N sc k X)
include hX
theorem cmpIt {a c : List Item} (ha : levs a ≤ 5) (hc : levs c ≤ 5) : CmpR X .Eq b (tIt a) (tIt c) (decide (a = c)) := (cmpR_eqD hX.room (shaped_its ha) (shaped_its hc)).eq (by show PyData.eqv (.tuple _) (.tuple _) = _; simp only [PyData.eqv]; exact eqv_encs a c)
theorem cmpIt0 {a : List Item} (ha : levs a ≤ 5) : CmpR X .Eq b (tIt a) (.tuple []) (decide (a = [])) := cmpIt hX ha (by rw [levs_nil]; omega)
end
end W

namespace W
open PySem PySem.Spec PyProof.Rows L2 LR
/-! items as they are handed in -/
inductive Raw where
  | set (x : Int) (f : List Int)
  | again (n : Int) (k : Bool) (its : List Raw)
def seqK (k : Bool) (ds : List PyData) : PyData := if k then .list ds else .tuple ds
mutual
def Raw.enc : Raw → PyData
  | .set x f => .tuple [.str "set", .int x, tI f]
  | .again n k its => .tuple [.str "again", .int n, seqK k (encRs its)]
def encRs : List Raw → List PyData
  | [] => []
  | i :: r => i.enc :: encRs r
end
theorem encRs_map : ∀ its, encRs its = its.map Raw.enc
  | [] => by simp [encRs]
  | i :: r => by rw [encRs, List.map_cons, encRs_map r]
abbrev seqR (k : Bool) (its : List Raw) : PyData := seqK k (its.map Raw.enc)
theorem encR_set (x : Int) (f : List Int) : (Raw.set x f).enc = .tuple [.str "set", .int x, tI f] := by rw [Raw.enc]
theorem encR_again (n : Int) (k : Bool) (its : List Raw) : (Raw.again n k its).enc = .tuple [.str "again", .int n, seqR k its] := by rw [Raw.enc, encRs_map]
theorem seqD_K (k : Bool) (ds : List PyData) : SeqD (seqK k ds) k ds := by cases k <;> constructor
mutual
def Raw.lev : Raw → Nat
  | .set _ _ => 0
  | .again _ _ its => 1 + levRs its
def levRs : List Raw → Nat
  | [] => 0
  | i :: r => max i.lev (levRs r)
end
mutual
def Raw.cnt : Raw → Nat
  | .set _ _ => 1
  | .again _ _ its => 1 + cntRs its
def cntRs : List Raw → Nat
  | [] => 0
  | i :: r => i.cnt + cntRs r
end
mutual
def Raw.Good (n : Nat) : Raw → Prop
  | .set x f => 0 ≤ x ∧ x < n ∧ f.length = n + 1
  | .again m _ its => 0 ≤ m ∧ m ≤ 1000000000000000000000000000000 ∧ GoodRs n its
def GoodRs (n : Nat) : List Raw → Prop
  | [] => True
  | i :: r => i.Good n ∧ GoodRs n r
end
mutual
/-- .. with numbers on the wheel -/
def Raw.wheel (P : Int) : Raw → Item
  | .set x f => .set x (f.map (· % P))
  | .again m _ its => .again m (wheels P its)
def wheels (P : Int) : List Raw → List Item
  | [] => []
  | i :: r => i.wheel P :: wheels P r
end
theorem wheels_map (P : Int) : ∀ its, wheels P its = its.map (Raw.wheel P)
  | [] => by simp [wheels]
  | i :: r => by rw [wheels, List.map_cons, wheels_map P r]
theorem levR_set {x : Int} {f : List Int} : (Raw.set x f).lev = 0 := by rw [Raw.lev]
theorem levR_again {n : Int} {k : Bool} {its : List Raw} : (Raw.again n k its).lev = 1 + levRs its := by rw [Raw.lev]
theorem levRs_nil : levRs [] = 0 := by rw [levRs]
theorem levRs_cons {i : Raw} {r : List Raw} : levRs (i :: r) = max i.lev (levRs r) := by rw [levRs]
theorem cntR_set {x : Int} {f : List Int} : (Raw.set x f).cnt = 1 := by rw [Raw.cnt]
theorem cntR_again {n : Int} {k : Bool} {its : List Raw} : (Raw.again n k its).cnt = 1 + cntRs its := by rw [Raw.cnt]
theorem cntRs_nil : cntRs [] = 0 := by rw [cntRs]
theorem cntRs_cons {i : Raw} {r : List Raw} : cntRs (i :: r) = i.cnt + cntRs r := by rw [cntRs]
theorem goodR_set {n : Nat} {x : Int} {f : List Int} : (Raw.set x f).Good n ↔ 0 ≤ x ∧ x < n ∧ f.length = n + 1 := by rw [Raw.Good]
theorem goodR_again {n : Nat} {m : Int} {k : Bool} {its : List Raw} : (Raw.again m k its).Good n ↔ 0 ≤ m ∧ m ≤ 1000000000000000000000000000000 ∧ GoodRs n its := by rw [Raw.Good]
theorem wheel_set {P x : Int} {f : List Int} : (Raw.set x f).wheel P = .set x (f.map (· % P)) := by rw [Raw.wheel]
theorem wheel_again {P m : Int} {k : Bool} {its : List Raw} : (Raw.again m k its).wheel P = .again m (its.map (Raw.wheel P)) := by rw [Raw.wheel, wheels_map]
theorem goodRs_iff {n : Nat} : ∀ {its : List Raw}, GoodRs n its ↔ ∀ i ∈ its, i.Good n
  | [] => by simp [GoodRs]
  | i :: r => by rw [GoodRs, goodRs_iff (its := r)]; simp
theorem levRs_le {d : Nat} : ∀ {its : List Raw}, levRs its ≤ d ↔ ∀ i ∈ its, i.lev ≤ d
  | [] => by simp [levRs]
  | i :: r => by
    rw [levRs_cons, Nat.max_le, levRs_le (its := r)]
    simp
theorem cntRs_snoc {its : List Raw} {i : Nat} (h : i < its.length) : cntRs (its.take (i + 1)) = cntRs (its.take i) + (its[i]).cnt := by
  have app : ∀ a b : List Raw, cntRs (a ++ b) = cntRs a + cntRs b := fun a => by
    induction a with
    | nil => intro b; rw [cntRs_nil, Nat.zero_add]; rfl
    | cons x a ih =>
      intro b
      show cntRs (x :: (a ++ b)) = _
      rw [cntRs_cons, cntRs_cons, ih b, Nat.add_assoc]
  rw [List.take_add_one, List.getElem?_eq_getElem h, Option.toList_some, app, cntRs_cons, cntRs_nil, Nat.add_zero]
theorem levRs_snoc {its : List Raw} {i : Nat} (h : i < its.length) : levRs (its.take (i + 1)) = max (levRs (its.take i)) (its[i]).lev := by
  have app : ∀ a b : List Raw, levRs (a ++ b) = max (levRs a) (levRs b) := fun a => by
    induction a with
    | nil => intro b; rw [levRs_nil, Nat.zero_max]; rfl
    | cons x a ih =>
      intro b
      show levRs (x :: (a ++ b)) = _
      rw [levRs_cons, levRs_cons, ih b, Nat.max_assoc]
  rw [List.take_add_one, List.getElem?_eq_getElem h, Option.toList_some, app, levRs_cons, levRs_nil, Nat.max_zero]
section
variable {P : Program} {w : World} {K : PySem.W.Frag} {mg : Str → Option Value} {base : Heap}
inductive rItemsIn (d : Nat) : List PyData → Res → Prop
  | mk {k : Bool} {its : List Raw} (hl : levRs its ≤ d) : rItemsIn d [seqR k its] (.ok (.dat (.int (cntRs its : Nat))))
local macro_rules | `(tactic| wtm_at "nm") => `(tactic| first
  | ((with_reducible show Ev _ _ (.Name "items" _) _); exact nmF (by assumption) 0 (by rfl) rfl (by decide +kernel) (by decide +kernel) (by decide +kernel))
  | ((with_reducible show Ev _ _ (.Name "many" _) _); exact nmF (by assumption) 1 (by rfl) rfl (by decide +kernel) (by decide +kernel) (by decide +kernel))
  | ((with_reducible show Ev _ _ (.Name "item" _) _); exact nmF (by assumption) 2 (by rfl) rfl (by decide +kernel) (by decide +kernel) (by decide +kernel)))
local macro_rules | `(tactic| wtm_at "own") => `(tactic| first
  | ((with_reducible show EvS _ _ (.Name "items" _) _ _); exact ownF (by assumption) 0 (by rfl) rfl (by decide +kernel) (by decide +kernel) (by decide +kernel))
  | ((with_reducible show EvS _ _ (.Name "many" _) _ _); exact ownF (by assumption) 1 (by rfl) rfl (by decide +kernel) (by decide +kernel) (by decide +kernel))
  | ((with_reducible show EvS _ _ (.Name "item" _) _ _); exact ownF (by assumption) 2 (by rfl) rfl (by decide +kernel) (by decide +kernel) (by decide +kernel)))
local macro_rules | `(tactic| wtm_at "ownl") => `(tactic| first
  | ((with_reducible show EvL _ _ (.Name "items" _) _); exact ownlF (by assumption) 0 (by rfl) rfl (by decide +kernel) (by decide +kernel) (by decide +kernel))
  | ((with_reducible show EvL _ _ (.Name "many" _) _); exact ownlF (by assumption) 1 (by rfl) rfl (by decide +kernel) (by decide +kernel) (by decide +kernel))
  | ((with_reducible show EvL _ _ (.Name "item" _) _); exact ownlF (by assumption) 2 (by rfl) rfl (by decide +kernel) (by decide +kernel) (by decide +kernel)))
local macro_rules | `(tactic| wtm_at "set") => `(tactic| first
  | ((with_reducible show S1 _ _ (.Assign [.Name "items" _] _ _) _); refine' setF ?st1 ?st2 0 ?st3 ?st4 ?ste ?st5; (case' st1 => assumption); (case' st2 => assumption); (case' st3 => rfl); (case' st4 => decide +kernel); (case' ste => wtm_at "ev"); (case' st5 => rfl))
  | ((with_reducible show S1 _ _ (.Assign [.Name "many" _] _ _) _); refine' setF ?st1 ?st2 1 ?st3 ?st4 ?ste ?st5; (case' st1 => assumption); (case' st2 => assumption); (case' st3 => rfl); (case' st4 => decide +kernel); (case' ste => wtm_at "ev"); (case' st5 => rfl))
  | ((with_reducible show S1 _ _ (.Assign [.Name "item" _] _ _) _); refine' setF ?st1 ?st2 2 ?st3 ?st4 ?ste ?st5; (case' st1 => assumption); (case' st2 => assumption); (case' st3 => rfl); (case' st4 => decide +kernel); (case' ste => wtm_at "ev"); (case' st5 => rfl)))
local macro_rules | `(tactic| wtm_at "app") => `(tactic| first
  | ((with_reducible show S1 _ _ (.Expr (.Call (.Attribute (.Name "items" _) _ _) _ _ _) _) _); refine' appF ?ap1 0 ?ap2 ?ap3 ?ap4 ?ape ?aps ?ap5 ?ap6; (case' ap1 => assumption); (case' ap2 => rfl); (case' ap3 => rfl); (case' ap4 => decide +kernel); (case' ape => wtm_at "ev"); (case' aps => try (wtm_at "sz")); (case' ap5 => decide +kernel); (case' ap6 => decide +kernel))
  | ((with_reducible show S1 _ _ (.Expr (.Call (.Attribute (.Name "many" _) _ _) _ _ _) _) _); refine' appF ?ap1 1 ?ap2 ?ap3 ?ap4 ?ape ?aps ?ap5 ?ap6; (case' ap1 => assumption); (case' ap2 => rfl); (case' ap3 => rfl); (case' ap4 => decide +kernel); (case' ape => wtm_at "ev"); (case' aps => try (wtm_at "sz")); (case' ap5 => decide +kernel); (case' ap6 => decide +kernel))
  | ((with_reducible show S1 _ _ (.Expr (.Call (.Attribute (.Name "item" _) _ _) _ _ _) _) _); refine' appF ?ap1 2 ?ap2 ?ap3 ?ap4 ?ape ?aps ?ap5 ?ap6; (case' ap1 => assumption); (case' ap2 => rfl); (case' ap3 => rfl); (case' ap4 => decide +kernel); (case' ape => wtm_at "ev"); (case' aps => try (wtm_at "sz")); (case' ap5 => decide +kernel); (case' ap6 => decide +kernel)))
local macro_rules | `(tactic| wtm_at "put") => `(tactic| first
  | ((with_reducible show S1 _ _ (.Assign [.Subscript (.Name "items" _) _ _] _ _) _); refine' putF ?pu1 0 ?pu2 ?pu3 ?pu4 ?pue ?pui ?pu5 ?pu6 ?pu7 ?pu8; (case' pu1 => assumption); (case' pu2 => rfl); (case' pu3 => rfl); (case' pu4 => decide +kernel); (case' pue => wtm_at "ev"); (case' pui => wtm_at "ev"); (case' pu5 => try (wtm_at "sd")); (case' pu6 => try (wtm_at "sd")); (case' pu7 => decide +kernel); (case' pu8 => decide +kernel))
  | ((with_reducible show S1 _ _ (.Assign [.Subscript (.Name "many" _) _ _] _ _) _); refine' putF ?pu1 1 ?pu2 ?pu3 ?pu4 ?pue ?pui ?pu5 ?pu6 ?pu7 ?pu8; (case' pu1 => assumption); (case' pu2 => rfl); (case' pu3 => rfl); (case' pu4 => decide +kernel); (case' pue => wtm_at "ev"); (case' pui => wtm_at "ev"); (case' pu5 => try (wtm_at "sd")); (case' pu6 => try (wtm_at "sd")); (case' pu7 => decide +kernel); (case' pu8 => decide +kernel))
  | ((with_reducible show S1 _ _ (.Assign [.Subscript (.Name "item" _) _ _] _ _) _); refine' putF ?pu1 2 ?pu2 ?pu3 ?pu4 ?pue ?pui ?pu5 ?pu6 ?pu7 ?pu8; (case' pu1 => assumption); (case' pu2 => rfl); (case' pu3 => rfl); (case' pu4 => decide +kernel); (case' pue => wtm_at "ev"); (case' pui => wtm_at "ev"); (case' pu5 => try (wtm_at "sd")); (case' pu6 => try (wtm_at "sd")); (case' pu7 => decide +kernel); (case' pu8 => decide +kernel)))
local macro_rules | `(tactic| wtm_at "reto") => `(tactic| first
  | ((with_reducible show S1 _ _ (.Return (some (.Name "items" _)) _) _); exact retOF (by assumption) 0 (by rfl) rfl (by decide +kernel) (by decide +kernel) (by decide +kernel))
  | ((with_reducible show S1 _ _ (.Return (some (.Name "many" _)) _) _); exact retOF (by assumption) 1 (by rfl) rfl (by decide +kernel) (by decide +kernel) (by decide +kernel))
  | ((with_reducible show S1 _ _ (.Return (some (.Name "item" _)) _) _); exact retOF (by assumption) 2 (by rfl) rfl (by decide +kernel) (by decide +kernel) (by decide +kernel)))
local macro_rules | `(tactic| wtm_at "tgt") => `(tactic| first
  | ((with_reducible show PG _ (.Name "items" _) _); exact tgF (by assumption) (by assumption) 0 (by rfl) (by decide +kernel))
  | ((with_reducible show PG _ (.Name "many" _) _); exact tgF (by assumption) (by assumption) 1 (by rfl) (by decide +kernel))
  | ((with_reducible show PG _ (.Name "item" _) _); exact tgF (by assumption) (by assumption) 2 (by rfl) (by decide +kernel)))
theorem rec_items_in {f : Addr} {fd : FuncData} (F : Fun K "items_in" "items_in" s_items_in f fd) (hm : mg "items_in" = some (.ref f)) (b : Binds K fd ["items"] []) : ∀ d : Nat, Fn P w K mg base (1 + d) "items_in" ["items"] (rItemsIn d)
  | d => by
    have ih : ∀ e, e < d → Fn P w K mg base (1 + e) "items_in" ["items"] (rItemsIn e) := fun e he => rec_items_in F hm b e
    have ek : 1 + d = d + 1 := by omega
    rw [ek]
    refine fnF F hm b sc_items_in (fun ds r h => by cases h; rfl) fun X hX hT ds r h => ?_
    cases h with
    | @mk k its hl =>
      refine' sm_cons ?s1 ?_
      case' s1 => wtm_at "st"
      refine' sm_cons ?s2 ?_
      case' s2 =>
        refine' forL hX 2 its Raw.enc (fun i => [.dat (seqR k its), .dat (.int (cntRs (its.take i) : Nat)), .un]) ?i2 rfl ?g2 ?l2 (fun _ => rfl) (fun i hi => ?b2)
        case' i2 => exact ei_dat (by wtm_at "ev") (seqD_K k _)
        case' g2 => wtm_at "tgt"
        case' l2 =>
          rw [List.take_zero, cntRs_nil]
          wtm_at "le"
        rw [cntRs_snoc hi]
        have hli : (its[i]).lev ≤ d := levRs_le.mp hl _ (List.getElem_mem hi)
        generalize cntRs (its.take i) = so at *
        generalize its[i] = it at *
        refine' sm_cons ?s3 ?_
        case' s3 => wtm_at "st"
        refine' sm_one ?s4
        case' s4 =>
          cases it with
          | set x f =>
            rw [encR_set, cntR_set]
            refine' s1_if (v := false) ?c3 (fun h3 => nomatch h3) fun _ => ?t3
            case' c3 =>
              refine' et_eq ?c4 (u := false) ?c5
              case' c4 => wtm_at "test"
              case' c5 => decide
            case' t3 =>
              refine' sm_le sm_nil ?l4
              case' l4 => exact LeA.cons LeC.refl (LeA.cons (LeC.int (by omega)) (LeA.cons LeC.un LeA.nil))
          | again m kk its' =>
            rw [levR_again] at hli
            have G' := ih (d - 1) (by omega)
            have jd : 1 + (d - 1) ≤ d := by omega
            rw [encR_again, cntR_again]
            refine' s1_if (v := true) ?c13 (fun _ => ?f3) fun h3 => nomatch h3
            case' c13 =>
              refine' et_eq ?c14 (u := true) ?c15
              case' c14 => wtm_at "test"
              case' c15 => decide
            case' f3 =>
              refine' sm_le (sm_one ?s14) ?l14
              case' s14 =>
                refine' setF hX hT 1 (by rfl) ?q13 (ev_bin ?q14 ?q15 BinD.add) (by rfl)
                case' q13 => decide +kernel
                case' q14 => wtm_at "ev"
                case' q15 =>
                  refine' callF hX G' jd ?d1 ?d2 (rItemsIn.mk (k := kk) (its := its') (by omega)) ?d3
                  case' d1 => decide +kernel
                  case' d2 => wtm_at "args"
                  case' d3 => decide +kernel
              case' l14 => exact LeA.cons LeC.refl (LeA.cons (LeC.int (by omega)) (LeA.cons LeC.un LeA.nil))
      rw [List.take_length]
      refine' sm_end (s1_retE ?e9 ?e10)
      case' e9 => wtm_at "ev"
      case e10 => rfl
theorem ok_items_in {f : Addr} {fd : FuncData} (F : Fun K "items_in" "items_in" s_items_in f fd) (hm : mg "items_in" = some (.ref f)) (b : Binds K fd ["items"] []) : Fn P w K mg base 7 "items_in" ["items"] (rItemsIn 6) := rec_items_in F hm b 6
inductive rDeep (d : Nat) : List PyData → Res → Prop
  | mk {k : Bool} {its : List Raw} (hl : levRs its ≤ d) : rDeep d [seqR k its] (.ok (.dat (.int (levRs its : Nat))))
local macro_rules | `(tactic| wtm_at "nm") => `(tactic| first
  | ((with_reducible show Ev _ _ (.Name "items" _) _); exact nmF (by assumption) 0 (by rfl) rfl (by decide +kernel) (by decide +kernel) (by decide +kernel))
  | ((with_reducible show Ev _ _ (.Name "deepest" _) _); exact nmF (by assumption) 1 (by rfl) rfl (by decide +kernel) (by decide +kernel) (by decide +kernel))
  | ((with_reducible show Ev _ _ (.Name "item" _) _); exact nmF (by assumption) 2 (by rfl) rfl (by decide +kernel) (by decide +kernel) (by decide +kernel)))
local macro_rules | `(tactic| wtm_at "own") => `(tactic| first
  | ((with_reducible show EvS _ _ (.Name "items" _) _ _); exact ownF (by assumption) 0 (by rfl) rfl (by decide +kernel) (by decide +kernel) (by decide +kernel))
  | ((with_reducible show EvS _ _ (.Name "deepest" _) _ _); exact ownF (by assumption) 1 (by rfl) rfl (by decide +kernel) (by decide +kernel) (by decide +kernel))
  | ((with_reducible show EvS _ _ (.Name "item" _) _ _); exact ownF (by assumption) 2 (by rfl) rfl (by decide +kernel) (by decide +kernel) (by decide +kernel)))
local macro_rules | `(tactic| wtm_at "ownl") => `(tactic| first
  | ((with_reducible show EvL _ _ (.Name "items" _) _); exact ownlF (by assumption) 0 (by rfl) rfl (by decide +kernel) (by decide +kernel) (by decide +kernel))
  | ((with_reducible show EvL _ _ (.Name "deepest" _) _); exact ownlF (by assumption) 1 (by rfl) rfl (by decide +kernel) (by decide +kernel) (by decide +kernel))
  | ((with_reducible show EvL _ _ (.Name "item" _) _); exact ownlF (by assumption) 2 (by rfl) rfl (by decide +kernel) (by decide +kernel) (by decide +kernel)))
local macro_rules | `(tactic| wtm_at "set") => `(tactic| first
  | ((with_reducible show S1 _ _ (.Assign [.Name "items" _] _ _) _); refine' setF ?st1 ?st2 0 ?st3 ?st4 ?ste ?st5; (case' st1 => assumption); (case' st2 => assumption); (case' st3 => rfl); (case' st4 => decide +kernel); (case' ste => wtm_at "ev"); (case' st5 => rfl))
  | ((with_reducible show S1 _ _ (.Assign [.Name "deepest" _] _ _) _); refine' setF ?st1 ?st2 1 ?st3 ?st4 ?ste ?st5; (case' st1 => assumption); (case' st2 => assumption); (case' st3 => rfl); (case' st4 => decide +kernel); (case' ste => wtm_at "ev"); (case' st5 => rfl))
  | ((with_reducible show S1 _ _ (.Assign [.Name "item" _] _ _) _); refine' setF ?st1 ?st2 2 ?st3 ?st4 ?ste ?st5; (case' st1 => assumption); (case' st2 => assumption); (case' st3 => rfl); (case' st4 => decide +kernel); (case' ste => wtm_at "ev"); (case' st5 => rfl)))
local macro_rules | `(tactic| wtm_at "app") => `(tactic| first
  | ((with_reducible show S1 _ _ (.Expr (.Call (.Attribute (.Name "items" _) _ _) _ _ _) _) _); refine' appF ?ap1 0 ?ap2 ?ap3 ?ap4 ?ape ?aps ?ap5 ?ap6; (case' ap1 => assumption); (case' ap2 => rfl); (case' ap3 => rfl); (case' ap4 => decide +kernel); (case' ape => wtm_at "ev"); (case' aps => try (wtm_at "sz")); (case' ap5 => decide +kernel); (case' ap6 => decide +kernel))
  | ((with_reducible show S1 _ _ (.Expr (.Call (.Attribute (.Name "deepest" _) _ _) _ _ _) _) _); refine' appF ?ap1 1 ?ap2 ?ap3 ?ap4 ?ape ?aps ?ap5 ?ap6; (case' ap1 => assumption); (case' ap2 => rfl); (case' ap3 => rfl); (case' ap4 => decide +kernel); (case' ape => wtm_at "ev"); (case' aps => try (wtm_at "sz")); (case' ap5 => decide +kernel); (case' ap6 => decide +kernel))
  | ((with_reducible show S1 _ _ (.Expr (.Call (.Attribute (.Name "item" _) _ _) _ _ _) _) _); refine' appF ?ap1 2 ?ap2 ?ap3 ?ap4 ?ape ?aps ?ap5 ?ap6; (case' ap1 => assumption); (case' ap2 => rfl); (case' ap3 => rfl); (case' ap4 => decide +kernel); (case' ape => wtm_at "ev"); (case' aps => try (wtm_at "sz")); (case' ap5 => decide +kernel); (case' ap6 => decide +kernel)))
local macro_rules | `(tactic| wtm_at "put") => `(tactic| first
  | ((with_reducible show S1 _ _ (.Assign [.Subscript (.Name "items" _) _ _] _ _) _); refine' putF ?pu1 0 ?pu2 ?pu3 ?pu4 ?pue ?pui ?pu5 ?pu6 ?pu7 ?pu8; (case' pu1 => assumption); (case' pu2 => rfl); (case' pu3 => rfl); (case' pu4 => decide +kernel); (case' pue => wtm_at "ev"); (case' pui => wtm_at "ev"); (case' pu5 => try (wtm_at "sd")); (case' pu6 => try (wtm_at "sd")); (case' pu7 => decide +kernel); (case' pu8 => decide +kernel))
  | ((with_reducible show S1 _ _ (.Assign [.Subscript (.Name "deepest" _) _ _] _ _) _); refine' putF ?pu1 1 ?pu2 ?pu3 ?pu4 ?pue ?pui ?pu5 ?pu6 ?pu7 ?pu8; (case' pu1 => assumption); (case' pu2 => rfl); (case' pu3 => rfl); (case' pu4 => decide +kernel); (case' pue => wtm_at "ev"); (case' pui => wtm_at "ev"); (case' pu5 => try (wtm_at "sd")); (case' pu6 => try (wtm_at "sd")); (case' pu7 => decide +kernel); (case' pu8 => decide +kernel))
  | ((with_reducible show S1 _ _ (.Assign [.Subscript (.Name "item" _) _ _] _ _) _); refine' putF ?pu1 2 ?pu2 ?pu3 ?pu4 ?pue ?pui ?pu5 ?pu6 ?pu7 ?pu8; (case' pu1 => assumption); (case' pu2 => rfl); (case' pu3 => rfl); (case' pu4 => decide +kernel); (case' pue => wtm_at "ev"); (case' pui => wtm_at "ev"); (case' pu5 => try (wtm_at "sd")); (case' pu6 => try (wtm_at "sd")); (case' pu7 => decide +kernel); (case' pu8 => decide +kernel)))
local macro_rules | `(tactic| wtm_at "reto") => `(tactic| first
  | ((with_reducible show S1 _ _ (.Return (some (.Name "items" _)) _) _); exact retOF (by assumption) 0 (by rfl) rfl (by decide +kernel) (by decide +kernel) (by decide +kernel))
  | ((with_reducible show S1 _ _ (.Return (some (.Name "deepest" _)) _) _); exact retOF (by assumption) 1 (by rfl) rfl (by decide +kernel) (by decide +kernel) (by decide +kernel))
  | ((with_reducible show S1 _ _ (.Return (some (.Name "item" _)) _) _); exact retOF (by assumption) 2 (by rfl) rfl (by decide +kernel) (by decide +kernel) (by decide +kernel)))
local macro_rules | `(tactic| wtm_at "tgt") => `(tactic| first
  | ((with_reducible show PG _ (.Name "items" _) _); exact tgF (by assumption) (by assumption) 0 (by rfl) (by decide +kernel))
  | ((with_reducible show PG _ (.Name "deepest" _) _); exact tgF (by assumption) (by assumption) 1 (by rfl) (by decide +kernel))
  | ((with_reducible show PG _ (.Name "item" _) _); exact tgF (by assumption) (by assumption) 2 (by rfl) (by decide +kernel)))
theorem rec_agains_deep {f : Addr} {fd : FuncData} (F : Fun K "agains_deep" "agains_deep" s_agains_deep f fd) (hm : mg "agains_deep" = some (.ref f)) (b : Binds K fd ["items"] []) (mma : mg "max" = none) : ∀ d : Nat, Fn P w K mg base (1 + d) "agains_deep" ["items"] (rDeep d)
  | d => by
    have ih : ∀ e, e < d → Fn P w K mg base (1 + e) "agains_deep" ["items"] (rDeep e) := fun e he => rec_agains_deep F hm b mma e
    have ek : 1 + d = d + 1 := by omega
    rw [ek]
    refine fnF F hm b sc_agains_deep (fun ds r h => by cases h; rfl) fun X hX hT ds r h => ?_
    cases h with
    | @mk k its hl =>
      refine' sm_cons ?s1 ?_
      case' s1 => wtm_at "st"
      refine' sm_cons ?s2 ?_
      case' s2 =>
        refine' forL hX 2 its Raw.enc (fun i => [.dat (seqR k its), .dat (.int (levRs (its.take i) : Nat)), .un]) ?i2 rfl ?g2 ?l2 (fun _ => rfl) (fun i hi => ?b2)
        case' i2 => exact ei_dat (by wtm_at "ev") (seqD_K k _)
        case' g2 => wtm_at "tgt"
        case' l2 =>
          rw [List.take_zero, levRs_nil]
          wtm_at "le"
        rw [levRs_snoc hi]
        have hli : (its[i]).lev ≤ d := levRs_le.mp hl _ (List.getElem_mem hi)
        generalize levRs (its.take i) = so at *
        generalize its[i] = it at *
        refine' sm_one ?s4
        case' s4 =>
          cases it with
          | set x f =>
            rw [encR_set, levR_set]
            refine' s1_if (v := false) ?c3 (fun h3 => nomatch h3) fun _ => ?t3
            case' c3 =>
              refine' et_eq ?c4 (u := false) ?c5
              case' c4 => wtm_at "test"
              case' c5 => decide
            case' t3 =>
              refine' sm_le sm_nil ?l4
              case' l4 => exact LeA.cons LeC.refl (LeA.cons (LeC.int (by omega)) (LeA.cons LeC.un LeA.nil))
          | again m kk its' =>
            rw [levR_again] at hli
            have G' := ih (d - 1) (by omega)
            have jd : 1 + (d - 1) ≤ d := by omega
            rw [encR_again, levR_again]
            refine' s1_if (v := true) ?c13 (fun _ => ?f3) fun h3 => nomatch h3
            case' c13 =>
              refine' et_eq ?c14 (u := true) ?c15
              case' c14 => wtm_at "test"
              case' c15 => decide
            case' f3 =>
              refine' sm_le (sm_one ?s14) ?l14
              case' s14 =>
                refine' setF hX hT 1 (by rfl) ?q13 (max2F hX (i := (so : Int)) (j := 1 + (levRs its' : Nat)) ?q14 mma (ea_cons ?q15 (ea_cons (ev_bin (d1 := .int 1) (d2 := .int (levRs its' : Nat)) ?q16 ?q17 BinD.add) ea_nil))) (by rfl)
                case' q13 => decide +kernel
                case' q14 => decide +kernel
                case' q15 => wtm_at "ev"
                case' q16 => wtm_at "ev"
                case' q17 =>
                  refine' callF hX G' jd ?d1 ?d2 (rDeep.mk (k := kk) (its := its') (by omega)) ?d3
                  case' d1 => decide +kernel
                  case' d2 => wtm_at "args"
                  case' d3 => decide +kernel
              case' l14 => exact LeA.cons LeC.refl (LeA.cons (LeC.int (by omega)) (LeA.cons LeC.un LeA.nil))
      rw [List.take_length]
      refine' sm_end (s1_retE ?e9 ?e10)
      case' e9 => wtm_at "ev"
      case e10 => rfl
theorem ok_agains_deep {f : Addr} {fd : FuncData} (F : Fun K "agains_deep" "agains_deep" s_agains_deep f fd) (hm : mg "agains_deep" = some (.ref f)) (b : Binds K fd ["items"] []) (mma : mg "max" = none) : Fn P w K mg base 7 "agains_deep" ["items"] (rDeep 6) := rec_agains_deep F hm b mma 6
end
end W

namespace W
open PySem PySem.Spec PyProof.Rows L2 LR
/-- the loop of prime -/
theorem prm_walk {q : Int} (h2 : 3 ≤ q) (h9 : q ≤ 9999) : (Prm q ∧ ∃ k : Nat, k ≤ 100 ∧ (∀ i : Nat, i < k → decide ((2 + (i : Int)) * (2 + i) ≤ q) = true) ∧ decide ((2 + (k : Int)) * (2 + k) ≤ q) = false) ∨
    (¬ Prm q ∧ ∃ k : Nat, k ≤ 100 ∧ (∀ i : Nat, i < k → decide ((2 + (i : Int)) * (2 + i) ≤ q) = true ∧ q % (2 + i) ≠ 0) ∧ decide ((2 + (k : Int)) * (2 + k) ≤ q) = true ∧ q % (2 + k) = 0) := by
  obtain ⟨k, k9, k1, k2⟩ := first_not (fun i : Nat => decide ((2 + (i : Int)) * (2 + i) ≤ q) && !decide (q % (2 + i) = 0)) 100 (by
    rw [Bool.and_eq_false_iff]; exact .inl (decide_eq_false (by omega)))
  have k1' : ∀ i : Nat, i < k → decide ((2 + (i : Int)) * (2 + i) ≤ q) = true ∧ q % (2 + i) ≠ 0 := fun i hi => by
    have := k1 i hi
    simp only [Bool.and_eq_true, Bool.not_eq_true', decide_eq_false_iff_not] at this
    exact this
  by_cases hs : decide ((2 + (k : Int)) * (2 + k) ≤ q) = true
  · have hd : q % (2 + k) = 0 := by
      have e : (decide ((2 + (k : Int)) * (2 + k) ≤ q) && !decide (q % (2 + k) = 0)) = false := k2
      rw [hs, Bool.true_and] at e
      have e2 : decide (q % (2 + (k : Int)) = 0) = true := by
        cases e3 : decide (q % (2 + (k : Int)) = 0) with
        | true => rfl
        | false => rw [e3] at e; cases e
      exact of_decide_eq_true e2
    refine .inr ⟨fun hp => ?_, k, k9, k1', hs, hd⟩
    have hsq := of_decide_eq_true hs
    have hlt : 2 + (k : Int) < q := by
      have : 2 * (2 + (k : Int)) ≤ (2 + (k : Int)) * (2 + k) := Int.mul_le_mul_of_nonneg_right (by omega) (by omega)
      omega
    exact hp.no (2 + k) (by omega) hlt hd
  · have hs2 : decide ((2 + (k : Int)) * (2 + k) ≤ q) = false := by
      cases e : decide ((2 + (k : Int)) * (2 + k) ≤ q) with
      | false => rfl
      | true => exact absurd e hs
    refine .inl ⟨⟨h2, h9, fun d d2 dq hd => ?_⟩, k, k9, fun i hi => (k1' i hi).1, hs2⟩
    have hns := of_decide_eq_false hs2
    -- a divisor, or its partner, is below 2 + k
    have small : ∀ d : Int, 2 ≤ d → d < 2 + k → q % d = 0 → False := fun d d2 dk hd => by
      have := (k1' (d - 2).toNat (by omega)).2
      rw [show 2 + (((d - 2).toNat : Nat) : Int) = d by omega] at this
      exact this hd
    rcases Int.lt_or_le d (2 + k) with z | z
    · exact small d d2 z hd
    · obtain ⟨e, he⟩ := Int.dvd_of_emod_eq_zero hd
      have e1 : 2 ≤ e := by
        refine Classical.byContradiction fun hn => ?_
        have : d * e ≤ d * 1 := Int.mul_le_mul_of_nonneg_left (by omega) (by omega)
        omega
      have e2 : e < 2 + k := by
        refine Classical.byContradiction fun hn => ?_
        have : (2 + (k : Int)) * (2 + k) ≤ d * e := Int.mul_le_mul z (by omega) (by omega) (by omega)
        omega
      refine small e e1 e2 ?_
      rw [he]; exact Int.mul_emod_left d e
end W

namespace W
open PySem PySem.Spec PyProof.Rows L2 LR
/-! prime, items_of, program: with what they refuse -/
theorem first_badR {n : Nat} : ∀ {its : List Raw}, ¬ GoodRs n its → ∃ (m : Nat) (hm : m < its.length), (∀ (i : Nat) (h : i < its.length), i < m → (its[i]).Good n) ∧ ¬ (its[m]).Good n
  | [], h => absurd (by simp [GoodRs]) h
  | i :: r, h => by
    by_cases hi : i.Good n
    · have hr : ¬ GoodRs n r := fun z => h (by rw [GoodRs]; exact ⟨hi, z⟩)
      obtain ⟨m, hm, a, b⟩ := first_badR hr
      refine ⟨m + 1, by rw [List.length_cons]; omega, fun j hj hjm => ?_, by rw [List.getElem_cons_succ]; exact b⟩
      match j, hj, hjm with
      | 0, _, _ => exact hi
      | j + 1, hj, hjm =>
        rw [List.length_cons] at hj
        rw [List.getElem_cons_succ]
        exact a j (by omega) (by omega)
    · exact ⟨0, by rw [List.length_cons]; omega, fun j _ h => absurd h (Nat.not_lt_zero j), hi⟩
section
variable {P : Program} {w : World} {K : PySem.W.Frag} {mg : Str → Option Value} {base : Heap}
inductive rItemOf (d : Nat) : List PyData → Res → Prop
  | mk {p : Int} {n : Nat} {i : Raw} (p0 : 0 < p) (hg : i.Good n) (hl : i.lev ≤ d) (hc : i.cnt ≤ 1000) (hn : n ≤ 100) : rItemOf d [.int p, .int n, i.enc] (.ok (.dat (i.wheel p).enc))
  | no {p : Int} {n : Nat} {i : Raw} (p0 : 0 < p) (hg : ¬ i.Good n) (hl : i.lev ≤ d) (hc : i.cnt ≤ 1000) (hn : n ≤ 100) : rItemOf d [.int p, .int n, i.enc] (.ex "NoProgram")
inductive rItemsOf (d : Nat) : List PyData → Res → Prop
  | mk {p : Int} {n : Nat} {k : Bool} {its : List Raw} (p0 : 0 < p) (hg : GoodRs n its) (hl : levRs its ≤ d) (hc : cntRs its ≤ 1000) (hn : n ≤ 100) : rItemsOf d [.int p, .int n, seqR k its] (.ok (.dat (tIt (its.map (Raw.wheel p)))))
  | no {p : Int} {n : Nat} {k : Bool} {its : List Raw} (p0 : 0 < p) (hg : ¬ GoodRs n its) (hl : levRs its ≤ d) (hc : cntRs its ≤ 1000) (hn : n ≤ 100) : rItemsOf d [.int p, .int n, seqR k its] (.ex "NoProgram")
theorem cntR_le {its : List Raw} : ∀ {i : Raw}, i ∈ its → i.cnt ≤ cntRs its := by
  induction its with
  | nil => intro i h; cases h
  | cons a r ih =>
    intro i h
    rw [cntRs_cons]
    rcases List.mem_cons.mp h with rfl | h
    · omega
    · have := ih h
      omega
theorem lenR_le : ∀ its : List Raw, its.length ≤ cntRs its
  | [] => by rw [cntRs_nil]; exact Nat.le_refl _
  | i :: r => by
    rw [cntRs_cons, List.length_cons]
    have := lenR_le r
    have : 1 ≤ i.cnt := by
      cases i with
      | set x f => rw [cntR_set]; exact Nat.le_refl _
      | again n k its => rw [cntR_again]; omega
    omega
local macro_rules | `(tactic| wtm_at "R") => `(tactic| first
  | ((with_reducible apply rOn.mk) <;> first | (with_reducible assumption) | omega)
  | (constructor; all_goals try (wtm_at "sd")))
local macro_rules | `(tactic| wtm_at "nm") => `(tactic| first
  | ((with_reducible show Ev _ _ (.Name "P" _) _); exact nmF (by assumption) 0 (by rfl) rfl (by decide +kernel) (by decide +kernel) (by decide +kernel))
  | ((with_reducible show Ev _ _ (.Name "many" _) _); exact nmF (by assumption) 1 (by rfl) rfl (by decide +kernel) (by decide +kernel) (by decide +kernel))
  | ((with_reducible show Ev _ _ (.Name "item" _) _); exact nmF (by assumption) 2 (by rfl) rfl (by decide +kernel) (by decide +kernel) (by decide +kernel))
  | ((with_reducible show Ev _ _ (.Name "n" _) _); exact nmF (by assumption) 3 (by rfl) rfl (by decide +kernel) (by decide +kernel) (by decide +kernel)))
local macro_rules | `(tactic| wtm_at "own") => `(tactic| first
  | ((with_reducible show EvS _ _ (.Name "P" _) _ _); exact ownF (by assumption) 0 (by rfl) rfl (by decide +kernel) (by decide +kernel) (by decide +kernel))
  | ((with_reducible show EvS _ _ (.Name "many" _) _ _); exact ownF (by assumption) 1 (by rfl) rfl (by decide +kernel) (by decide +kernel) (by decide +kernel))
  | ((with_reducible show EvS _ _ (.Name "item" _) _ _); exact ownF (by assumption) 2 (by rfl) rfl (by decide +kernel) (by decide +kernel) (by decide +kernel))
  | ((with_reducible show EvS _ _ (.Name "n" _) _ _); exact ownF (by assumption) 3 (by rfl) rfl (by decide +kernel) (by decide +kernel) (by decide +kernel)))
local macro_rules | `(tactic| wtm_at "ownl") => `(tactic| first
  | ((with_reducible show EvL _ _ (.Name "P" _) _); exact ownlF (by assumption) 0 (by rfl) rfl (by decide +kernel) (by decide +kernel) (by decide +kernel))
  | ((with_reducible show EvL _ _ (.Name "many" _) _); exact ownlF (by assumption) 1 (by rfl) rfl (by decide +kernel) (by decide +kernel) (by decide +kernel))
  | ((with_reducible show EvL _ _ (.Name "item" _) _); exact ownlF (by assumption) 2 (by rfl) rfl (by decide +kernel) (by decide +kernel) (by decide +kernel))
  | ((with_reducible show EvL _ _ (.Name "n" _) _); exact ownlF (by assumption) 3 (by rfl) rfl (by decide +kernel) (by decide +kernel) (by decide +kernel)))
local macro_rules | `(tactic| wtm_at "set") => `(tactic| first
  | ((with_reducible show S1 _ _ (.Assign [.Name "P" _] _ _) _); refine' setF ?st1 ?st2 0 ?st3 ?st4 ?ste ?st5; (case' st1 => assumption); (case' st2 => assumption); (case' st3 => rfl); (case' st4 => decide +kernel); (case' ste => wtm_at "ev"); (case' st5 => rfl))
  | ((with_reducible show S1 _ _ (.Assign [.Name "many" _] _ _) _); refine' setF ?st1 ?st2 1 ?st3 ?st4 ?ste ?st5; (case' st1 => assumption); (case' st2 => assumption); (case' st3 => rfl); (case' st4 => decide +kernel); (case' ste => wtm_at "ev"); (case' st5 => rfl))
  | ((with_reducible show S1 _ _ (.Assign [.Name "item" _] _ _) _); refine' setF ?st1 ?st2 2 ?st3 ?st4 ?ste ?st5; (case' st1 => assumption); (case' st2 => assumption); (case' st3 => rfl); (case' st4 => decide +kernel); (case' ste => wtm_at "ev"); (case' st5 => rfl)))
local macro_rules | `(tactic| wtm_at "app") => `(tactic| first
  | ((with_reducible show S1 _ _ (.Expr (.Call (.Attribute (.Name "P" _) _ _) _ _ _) _) _); refine' appF ?ap1 0 ?ap2 ?ap3 ?ap4 ?ape ?aps ?ap5 ?ap6; (case' ap1 => assumption); (case' ap2 => rfl); (case' ap3 => rfl); (case' ap4 => decide +kernel); (case' ape => wtm_at "ev"); (case' aps => try (wtm_at "sz")); (case' ap5 => decide +kernel); (case' ap6 => decide +kernel))
  | ((with_reducible show S1 _ _ (.Expr (.Call (.Attribute (.Name "many" _) _ _) _ _ _) _) _); refine' appF ?ap1 1 ?ap2 ?ap3 ?ap4 ?ape ?aps ?ap5 ?ap6; (case' ap1 => assumption); (case' ap2 => rfl); (case' ap3 => rfl); (case' ap4 => decide +kernel); (case' ape => wtm_at "ev"); (case' aps => try (wtm_at "sz")); (case' ap5 => decide +kernel); (case' ap6 => decide +kernel))
  | ((with_reducible show S1 _ _ (.Expr (.Call (.Attribute (.Name "item" _) _ _) _ _ _) _) _); refine' appF ?ap1 2 ?ap2 ?ap3 ?ap4 ?ape ?aps ?ap5 ?ap6; (case' ap1 => assumption); (case' ap2 => rfl); (case' ap3 => rfl); (case' ap4 => decide +kernel); (case' ape => wtm_at "ev"); (case' aps => try (wtm_at "sz")); (case' ap5 => decide +kernel); (case' ap6 => decide +kernel)))
local macro_rules | `(tactic| wtm_at "put") => `(tactic| first
  | ((with_reducible show S1 _ _ (.Assign [.Subscript (.Name "P" _) _ _] _ _) _); refine' putF ?pu1 0 ?pu2 ?pu3 ?pu4 ?pue ?pui ?pu5 ?pu6 ?pu7 ?pu8; (case' pu1 => assumption); (case' pu2 => rfl); (case' pu3 => rfl); (case' pu4 => decide +kernel); (case' pue => wtm_at "ev"); (case' pui => wtm_at "ev"); (case' pu5 => try (wtm_at "sd")); (case' pu6 => try (wtm_at "sd")); (case' pu7 => decide +kernel); (case' pu8 => decide +kernel))
  | ((with_reducible show S1 _ _ (.Assign [.Subscript (.Name "many" _) _ _] _ _) _); refine' putF ?pu1 1 ?pu2 ?pu3 ?pu4 ?pue ?pui ?pu5 ?pu6 ?pu7 ?pu8; (case' pu1 => assumption); (case' pu2 => rfl); (case' pu3 => rfl); (case' pu4 => decide +kernel); (case' pue => wtm_at "ev"); (case' pui => wtm_at "ev"); (case' pu5 => try (wtm_at "sd")); (case' pu6 => try (wtm_at "sd")); (case' pu7 => decide +kernel); (case' pu8 => decide +kernel))
  | ((with_reducible show S1 _ _ (.Assign [.Subscript (.Name "item" _) _ _] _ _) _); refine' putF ?pu1 2 ?pu2 ?pu3 ?pu4 ?pue ?pui ?pu5 ?pu6 ?pu7 ?pu8; (case' pu1 => assumption); (case' pu2 => rfl); (case' pu3 => rfl); (case' pu4 => decide +kernel); (case' pue => wtm_at "ev"); (case' pui => wtm_at "ev"); (case' pu5 => try (wtm_at "sd")); (case' pu6 => try (wtm_at "sd")); (case' pu7 => decide +kernel); (case' pu8 => decide +kernel)))
local macro_rules | `(tactic| wtm_at "reto") => `(tactic| first
  | ((with_reducible show S1 _ _ (.Return (some (.Name "P" _)) _) _); exact retOF (by assumption) 0 (by rfl) rfl (by decide +kernel) (by decide +kernel) (by decide +kernel))
  | ((with_reducible show S1 _ _ (.Return (some (.Name "many" _)) _) _); exact retOF (by assumption) 1 (by rfl) rfl (by decide +kernel) (by decide +kernel) (by decide +kernel))
  | ((with_reducible show S1 _ _ (.Return (some (.Name "item" _)) _) _); exact retOF (by assumption) 2 (by rfl) rfl (by decide +kernel) (by decide +kernel) (by decide +kernel)))
local macro_rules | `(tactic| wtm_at "tgt") => `(tactic| first
  | ((with_reducible show PG _ (.Name "P" _) _); exact tgF (by assumption) (by assumption) 0 (by rfl) (by decide +kernel))
  | ((with_reducible show PG _ (.Name "many" _) _); exact tgF (by assumption) (by assumption) 1 (by rfl) (by decide +kernel))
  | ((with_reducible show PG _ (.Name "item" _) _); exact tgF (by assumption) (by assumption) 2 (by rfl) (by decide +kernel)))
theorem step_item_of {f : Addr} {fd : FuncData} (F : Fun K "item_of" "item_of" s_item_of f fd) (hm : mg "item_of" = some (.ref f)) (b : Binds K fd ["P", "many", "item"] []) (mt : mg "tuple" = none) (ml : mg "len" = none) (xN : XC K mg "NoProgram") (Gon : Fn P w K mg base 1 "on" ["P", "n"] rOn) (d : Nat)
    (Gi : ∀ e, e < d → FnN P w K mg base (3 + 2 * e) "items_of" ["P", "many", "items"] (rItemsOf e)) : FnN P w K mg base (2 + 2 * d) "item_of" ["P", "many", "item"] (rItemOf d) := by
  have ek : 2 + 2 * d = (1 + 2 * d) + 1 := by omega
  rw [ek]
  refine fnN F hm b sc_item_of (fun ds r h => by cases h <;> rfl) fun X hX hT ds r h => ?_
  cases h with
  | @mk p n i p0 hg hl hc hn =>
    cases i with
    | set x f =>
      obtain ⟨x0, x1, x2⟩ := goodR_set.mp hg
      rw [encR_set, wheel_set, enc_set]
      refine' sm_cons (s1_if (v := false) ?c1 (fun h => nomatch h) fun _ => sm_nil) ?_
      case' c1 =>
        refine' et_eq ?c2 (u := false) ?c3
        case' c2 => wtm_at "test"
        case' c3 => decide
      refine' sm_cons (s1_if (v := false) ?c4 (fun h => nomatch h) fun _ => sm_nil) ?_
      case' c4 =>
        refine' et_eq ?c5 ?c6
        case' c5 => wtm_at "test"
        case c6 =>
          have z1 : ¬ x < 0 := by omega
          have z2 : ¬ (n : Int) ≤ x := by omega
          have z3 : ((f.map PyData.int).length : Int) = n + 1 := by rw [List.length_map]; omega
          simp only [z1, z2, z3, decide_false, decide_true, Bool.not_true, Bool.or_false]
      refine' sm_end (s1_retE (ev_tup (ea_cons ev_str (ea_cons ?e7 (ea_cons (tupleF hX ?e8 mt (evs_new (ev_eq (lcF hX 3 f PyData.int (fun y => .int (y % p)) ?i9 rfl ?ok9 ?n9 ?x9 ?z9 ?j9 fun Y hY z hz => ?y9) ?w9))) ea_nil))) ?z10) rfl)
      case' e7 => wtm_at "ev"
      case' e8 => decide +kernel
      case' i9 =>
        refine' ei_dat (d := tI f) ?i10 SeqD.tup
        case' i10 => wtm_at "ev"
      case' ok9 => decide +kernel
      case' n9 => rfl
      case' x9 => decide +kernel
      case z9 => rw [x2, sizeLine_eq]; omega
      case' j9 => rfl
      case' y9 =>
        refine' callF hY Gon (by omega) ?k1 ?k2 (rOn.mk p0) ?k3
        case' k1 => decide +kernel
        case' k2 => wtm_at "args"
        case' k3 => decide +kernel
      case w9 => rw [List.map_map]; rfl
      case z10 => rw [sizeLine_eq]; show 3 ≤ 16777216; decide
    | again m k its =>
      obtain ⟨m0, m1, g1⟩ := goodR_again.mp hg
      rw [levR_again] at hl
      rw [cntR_again] at hc
      have e30 : (10 : Int) ^ (30 : Int).toNat = 1000000000000000000000000000000 := by decide
      rw [encR_again, wheel_again, enc_again]
      refine' sm_end (s1_if (v := true) ?c11 (fun _ => ?t11) fun h => nomatch h)
      case' c11 =>
        refine' et_eq ?c12 (u := true) ?c13
        case' c12 => wtm_at "test"
        case' c13 => decide
      case' t11 =>
        refine' sm_cons (s1_if (v := false) ?c14 (fun h => nomatch h) fun _ => sm_nil) ?_
        case' c14 =>
          refine' et_eq ?c15 ?c16
          case' c15 => wtm_at "test"
          case c16 =>
            have z1 : ¬ m < 0 := by omega
            have z2 : ¬ (10 : Int) ^ (30 : Int).toNat < m := by rw [e30]; omega
            simp only [z1, z2, decide_false, Bool.or_false]
        refine' sm_end (s1_retE (ev_tup (ea_cons ev_str (ea_cons ?e17 (ea_cons (callF hX (Gi (d - 1) (by omega)).fn (by omega) ?e18 ?f18 (rItemsOf.mk (k := k) (its := its) p0 g1 (by omega) (by omega) hn) ?g18) ea_nil))) ?z18) rfl)
        case' e17 => wtm_at "ev"
        case' e18 => decide +kernel
        case' f18 => wtm_at "args"
        case' g18 => decide +kernel
        case z18 => rw [sizeLine_eq]; show 3 ≤ 16777216; decide
  | @no p n i p0 hg hl hc hn =>
    cases i with
    | set x f =>
      have hb : ¬ (0 ≤ x ∧ x < n ∧ f.length = n + 1) := fun z => hg (goodR_set.mpr z)
      rw [encR_set]
      refine ⟨[.dat (.int p), .dat (.int n), .dat (.tuple [.str "set", .int x, tI f]), .un], ?_⟩
      refine' smK_cons (s1_if (v := false) ?c21 (fun h => nomatch h) fun _ => sm_nil) ?_
      case' c21 =>
        refine' et_eq ?c22 (u := false) ?c23
        case' c22 => wtm_at "test"
        case' c23 => decide
      refine' smK_end (s1K_if (v := true) ?c24 (fun _ => smK_end (raiseK hX hT xN ?r1 ?r2)) fun h => nomatch h)
      case' c24 =>
        refine' et_eq ?c25 ?c26
        case' c25 => wtm_at "test"
        case c26 =>
          have z3 : ((f.map PyData.int).length : Int) = f.length := by rw [List.length_map]
          by_cases z1 : x < 0
          · simp [z1]
          by_cases z2 : (n : Int) ≤ x
          · simp [z2]
          have z4 : ¬ (f.length : Int) = n + 1 := fun e => hb ⟨by omega, by omega, by omega⟩
          simp [z1, z2, z4]
      case' r1 => decide +kernel
      case' r2 => decide +kernel
    | again m k its =>
      rw [levR_again] at hl
      rw [cntR_again] at hc
      have e30 : (10 : Int) ^ (30 : Int).toNat = 1000000000000000000000000000000 := by decide
      rw [encR_again]
      refine ⟨[.dat (.int p), .dat (.int n), .dat (.tuple [.str "again", .int m, seqR k its]), .un], ?_⟩
      refine' smK_end (s1K_if (v := true) ?c31 (fun _ => ?t31) fun h => nomatch h)
      case' c31 =>
        refine' et_eq ?c32 (u := true) ?c33
        case' c32 => wtm_at "test"
        case' c33 => decide
      case' t31 =>
        by_cases hm1 : 0 ≤ m ∧ m ≤ 1000000000000000000000000000000
        · have g1 : ¬ GoodRs n its := fun z => hg (goodR_again.mpr ⟨hm1.1, hm1.2, z⟩)
          refine' smK_cons (s1_if (v := false) ?c34 (fun h => nomatch h) fun _ => sm_nil) ?_
          case' c34 =>
            refine' et_eq ?c35 ?c36
            case' c35 => wtm_at "test"
            case c36 =>
              have z1 : ¬ m < 0 := by omega
              have z2 : ¬ (10 : Int) ^ (30 : Int).toNat < m := by rw [e30]; omega
              simp only [z1, z2, decide_false, Bool.or_false]
          refine' smK_end (s1K_ret (evxK_tup (eaxK_next (d := .str "again") ev_str (eaxK_next (d := .int m) ?e37 (eaxK_here (callXN hX (Gi (d - 1) (by omega)) (by omega) ?e38 ?f38 (rItemsOf.no (k := k) (its := its) p0 g1 (by omega) (by omega) hn) ?g38))))))
          case' e37 => wtm_at "ev"
          case' e38 => decide +kernel
          case' f38 => wtm_at "args"
          case' g38 => decide +kernel
        · refine' smK_end (s1K_if (v := true) ?c44 (fun _ => smK_end (raiseK hX hT xN ?r3 ?r4)) fun h => nomatch h)
          case' c44 =>
            refine' et_eq ?c45 ?c46
            case' c45 => wtm_at "test"
            case c46 =>
              by_cases z1 : m < 0
              · simp [z1]
              · have z2 : (10 : Int) ^ (30 : Int).toNat < m := by rw [e30]; omega
                simp only [z1, z2, decide_true, decide_false, Bool.or_true]
          case' r3 => decide +kernel
          case' r4 => decide +kernel
local macro_rules | `(tactic| wtm_at "nm") => `(tactic| first
  | ((with_reducible show Ev _ _ (.Name "P" _) _); exact nmF (by assumption) 0 (by rfl) rfl (by decide +kernel) (by decide +kernel) (by decide +kernel))
  | ((with_reducible show Ev _ _ (.Name "many" _) _); exact nmF (by assumption) 1 (by rfl) rfl (by decide +kernel) (by decide +kernel) (by decide +kernel))
  | ((with_reducible show Ev _ _ (.Name "items" _) _); exact nmF (by assumption) 2 (by rfl) rfl (by decide +kernel) (by decide +kernel) (by decide +kernel))
  | ((with_reducible show Ev _ _ (.Name "item" _) _); exact nmF (by assumption) 3 (by rfl) rfl (by decide +kernel) (by decide +kernel) (by decide +kernel)))
local macro_rules | `(tactic| wtm_at "own") => `(tactic| first
  | ((with_reducible show EvS _ _ (.Name "P" _) _ _); exact ownF (by assumption) 0 (by rfl) rfl (by decide +kernel) (by decide +kernel) (by decide +kernel))
  | ((with_reducible show EvS _ _ (.Name "many" _) _ _); exact ownF (by assumption) 1 (by rfl) rfl (by decide +kernel) (by decide +kernel) (by decide +kernel))
  | ((with_reducible show EvS _ _ (.Name "items" _) _ _); exact ownF (by assumption) 2 (by rfl) rfl (by decide +kernel) (by decide +kernel) (by decide +kernel))
  | ((with_reducible show EvS _ _ (.Name "item" _) _ _); exact ownF (by assumption) 3 (by rfl) rfl (by decide +kernel) (by decide +kernel) (by decide +kernel)))
local macro_rules | `(tactic| wtm_at "ownl") => `(tactic| first
  | ((with_reducible show EvL _ _ (.Name "P" _) _); exact ownlF (by assumption) 0 (by rfl) rfl (by decide +kernel) (by decide +kernel) (by decide +kernel))
  | ((with_reducible show EvL _ _ (.Name "many" _) _); exact ownlF (by assumption) 1 (by rfl) rfl (by decide +kernel) (by decide +kernel) (by decide +kernel))
  | ((with_reducible show EvL _ _ (.Name "items" _) _); exact ownlF (by assumption) 2 (by rfl) rfl (by decide +kernel) (by decide +kernel) (by decide +kernel))
  | ((with_reducible show EvL _ _ (.Name "item" _) _); exact ownlF (by assumption) 3 (by rfl) rfl (by decide +kernel) (by decide +kernel) (by decide +kernel)))
local macro_rules | `(tactic| wtm_at "set") => `(tactic| first
  | ((with_reducible show S1 _ _ (.Assign [.Name "P" _] _ _) _); refine' setF ?st1 ?st2 0 ?st3 ?st4 ?ste ?st5; (case' st1 => assumption); (case' st2 => assumption); (case' st3 => rfl); (case' st4 => decide +kernel); (case' ste => wtm_at "ev"); (case' st5 => rfl))
  | ((with_reducible show S1 _ _ (.Assign [.Name "many" _] _ _) _); refine' setF ?st1 ?st2 1 ?st3 ?st4 ?ste ?st5; (case' st1 => assumption); (case' st2 => assumption); (case' st3 => rfl); (case' st4 => decide +kernel); (case' ste => wtm_at "ev"); (case' st5 => rfl))
  | ((with_reducible show S1 _ _ (.Assign [.Name "items" _] _ _) _); refine' setF ?st1 ?st2 2 ?st3 ?st4 ?ste ?st5; (case' st1 => assumption); (case' st2 => assumption); (case' st3 => rfl); (case' st4 => decide +kernel); (case' ste => wtm_at "ev"); (case' st5 => rfl)))
local macro_rules | `(tactic| wtm_at "app") => `(tactic| first
  | ((with_reducible show S1 _ _ (.Expr (.Call (.Attribute (.Name "P" _) _ _) _ _ _) _) _); refine' appF ?ap1 0 ?ap2 ?ap3 ?ap4 ?ape ?aps ?ap5 ?ap6; (case' ap1 => assumption); (case' ap2 => rfl); (case' ap3 => rfl); (case' ap4 => decide +kernel); (case' ape => wtm_at "ev"); (case' aps => try (wtm_at "sz")); (case' ap5 => decide +kernel); (case' ap6 => decide +kernel))
  | ((with_reducible show S1 _ _ (.Expr (.Call (.Attribute (.Name "many" _) _ _) _ _ _) _) _); refine' appF ?ap1 1 ?ap2 ?ap3 ?ap4 ?ape ?aps ?ap5 ?ap6; (case' ap1 => assumption); (case' ap2 => rfl); (case' ap3 => rfl); (case' ap4 => decide +kernel); (case' ape => wtm_at "ev"); (case' aps => try (wtm_at "sz")); (case' ap5 => decide +kernel); (case' ap6 => decide +kernel))
  | ((with_reducible show S1 _ _ (.Expr (.Call (.Attribute (.Name "items" _) _ _) _ _ _) _) _); refine' appF ?ap1 2 ?ap2 ?ap3 ?ap4 ?ape ?aps ?ap5 ?ap6; (case' ap1 => assumption); (case' ap2 => rfl); (case' ap3 => rfl); (case' ap4 => decide +kernel); (case' ape => wtm_at "ev"); (case' aps => try (wtm_at "sz")); (case' ap5 => decide +kernel); (case' ap6 => decide +kernel)))
local macro_rules | `(tactic| wtm_at "put") => `(tactic| first
  | ((with_reducible show S1 _ _ (.Assign [.Subscript (.Name "P" _) _ _] _ _) _); refine' putF ?pu1 0 ?pu2 ?pu3 ?pu4 ?pue ?pui ?pu5 ?pu6 ?pu7 ?pu8; (case' pu1 => assumption); (case' pu2 => rfl); (case' pu3 => rfl); (case' pu4 => decide +kernel); (case' pue => wtm_at "ev"); (case' pui => wtm_at "ev"); (case' pu5 => try (wtm_at "sd")); (case' pu6 => try (wtm_at "sd")); (case' pu7 => decide +kernel); (case' pu8 => decide +kernel))
  | ((with_reducible show S1 _ _ (.Assign [.Subscript (.Name "many" _) _ _] _ _) _); refine' putF ?pu1 1 ?pu2 ?pu3 ?pu4 ?pue ?pui ?pu5 ?pu6 ?pu7 ?pu8; (case' pu1 => assumption); (case' pu2 => rfl); (case' pu3 => rfl); (case' pu4 => decide +kernel); (case' pue => wtm_at "ev"); (case' pui => wtm_at "ev"); (case' pu5 => try (wtm_at "sd")); (case' pu6 => try (wtm_at "sd")); (case' pu7 => decide +kernel); (case' pu8 => decide +kernel))
  | ((with_reducible show S1 _ _ (.Assign [.Subscript (.Name "items" _) _ _] _ _) _); refine' putF ?pu1 2 ?pu2 ?pu3 ?pu4 ?pue ?pui ?pu5 ?pu6 ?pu7 ?pu8; (case' pu1 => assumption); (case' pu2 => rfl); (case' pu3 => rfl); (case' pu4 => decide +kernel); (case' pue => wtm_at "ev"); (case' pui => wtm_at "ev"); (case' pu5 => try (wtm_at "sd")); (case' pu6 => try (wtm_at "sd")); (case' pu7 => decide +kernel); (case' pu8 => decide +kernel)))
local macro_rules | `(tactic| wtm_at "reto") => `(tactic| first
  | ((with_reducible show S1 _ _ (.Return (some (.Name "P" _)) _) _); exact retOF (by assumption) 0 (by rfl) rfl (by decide +kernel) (by decide +kernel) (by decide +kernel))
  | ((with_reducible show S1 _ _ (.Return (some (.Name "many" _)) _) _); exact retOF (by assumption) 1 (by rfl) rfl (by decide +kernel) (by decide +kernel) (by decide +kernel))
  | ((with_reducible show S1 _ _ (.Return (some (.Name "items" _)) _) _); exact retOF (by assumption) 2 (by rfl) rfl (by decide +kernel) (by decide +kernel) (by decide +kernel)))
local macro_rules | `(tactic| wtm_at "tgt") => `(tactic| first
  | ((with_reducible show PG _ (.Name "P" _) _); exact tgF (by assumption) (by assumption) 0 (by rfl) (by decide +kernel))
  | ((with_reducible show PG _ (.Name "many" _) _); exact tgF (by assumption) (by assumption) 1 (by rfl) (by decide +kernel))
  | ((with_reducible show PG _ (.Name "items" _) _); exact tgF (by assumption) (by assumption) 2 (by rfl) (by decide +kernel)))
theorem step_items_of {f : Addr} {fd : FuncData} (F : Fun K "items_of" "items_of" s_items_of f fd) (hm : mg "items_of" = some (.ref f)) (b : Binds K fd ["P", "many", "items"] []) (mt : mg "tuple" = none) (d : Nat)
    (Gi : FnN P w K mg base (2 + 2 * d) "item_of" ["P", "many", "item"] (rItemOf d)) : FnN P w K mg base (3 + 2 * d) "items_of" ["P", "many", "items"] (rItemsOf d) := by
  have ek : 3 + 2 * d = (2 + 2 * d) + 1 := by omega
  rw [ek]
  refine fnN F hm b sc_items_of (fun ds r h => by cases h <;> rfl) fun X hX hT ds r h => ?_
  cases h with
  | @mk p n k its p0 hg hl hc hn =>
    have ln := lenR_le its
    refine' sm_end (s1_retE (tupleF hX ?e8 mt (evs_new (lcF hX 3 its Raw.enc (fun y => (y.wheel p).enc) ?i9 rfl ?ok9 ?n9 ?x9 ?z9 ?j9 fun Y hY z hz => ?y9))) ?w9)
    case' e8 => decide +kernel
    case' i9 => exact ei_dat (by wtm_at "ev") (seqD_K k _)
    case' ok9 => decide +kernel
    case' n9 => rfl
    case' x9 => decide +kernel
    case z9 => rw [sizeLine_eq]; omega
    case' j9 => rfl
    case' y9 =>
      refine' callF hY Gi.fn (by omega) ?e10 ?f10 (rItemOf.mk (i := z) p0 (goodRs_iff.mp hg z hz) (levRs_le.mp hl z hz) (Nat.le_trans (cntR_le hz) hc) hn) ?g10
      case' e10 => decide +kernel
      case' f10 => wtm_at "args"
      case' g10 => decide +kernel
    case w9 =>
      show C.dat (.tuple _) = C.dat (.tuple ((its.map (Raw.wheel p)).map Item.enc))
      rw [List.map_map]
      rfl
  | @no p n k its p0 hg hl hc hn =>
    have ln := lenR_le its
    obtain ⟨m, hm, ok, bad⟩ := first_badR hg
    refine ⟨[.dat (.int p), .dat (.int n), .dat (seqR k its), .un], ?_⟩
    refine' smK_end (s1K_ret (tupleXK hX ?e18 mt (lcX hX hT true 3 its Raw.enc (fun y => (y.wheel p).enc) m hm ?i19 rfl ?ok19 ?n19 ?x19 ?z19 ?j19 (fun Y hY i hi hin => ?y19) fun Y hY => ?yb)))
    case' e18 => decide +kernel
    case' i19 => exact ei_dat (by wtm_at "ev") (seqD_K k _)
    case' ok19 => decide +kernel
    case' n19 => rfl
    case' x19 => decide +kernel
    case z19 => rw [sizeLine_eq]; omega
    case' j19 => rfl
    case' y19 =>
      have mi := List.getElem_mem hi
      refine' callF hY Gi.fn (by omega) ?e20 ?f20 (rItemOf.mk (i := its[i]) p0 (ok i hi hin) (levRs_le.mp hl _ mi) (Nat.le_trans (cntR_le mi) hc) hn) ?g20
      case' e20 => decide +kernel
      case' f20 => wtm_at "args"
      case' g20 => decide +kernel
    case' yb =>
      have mi := List.getElem_mem hm
      refine' callXN hY Gi (by omega) ?e21 ?f21 (rItemOf.no (i := its[m]) p0 bad (levRs_le.mp hl _ mi) (Nat.le_trans (cntR_le mi) hc) hn) ?g21
      case' e21 => decide +kernel
      case' f21 => wtm_at "args"
      case' g21 => decide +kernel
theorem rec_items_of {f : Addr} {fd : FuncData} (F : Fun K "item_of" "item_of" s_item_of f fd) (hm : mg "item_of" = some (.ref f)) (b : Binds K fd ["P", "many", "item"] []) (mt : mg "tuple" = none) (ml : mg "len" = none) (xN : XC K mg "NoProgram") (Gon : Fn P w K mg base 1 "on" ["P", "n"] rOn)
    {f2 : Addr} {fd2 : FuncData} (F2 : Fun K "items_of" "items_of" s_items_of f2 fd2) (hm2 : mg "items_of" = some (.ref f2)) (b2 : Binds K fd2 ["P", "many", "items"] []) (d : Nat) : FnN P w K mg base (3 + 2 * d) "items_of" ["P", "many", "items"] (rItemsOf d) := by
  induction d using Nat.strongRecOn with
  | _ d ih => exact step_items_of F2 hm2 b2 mt d (step_item_of F hm b mt ml xN Gon d ih)
theorem ok_items_of {f2 : Addr} {fd2 : FuncData} (F2 : Fun K "items_of" "items_of" s_items_of f2 fd2) (hm2 : mg "items_of" = some (.ref f2)) (b2 : Binds K fd2 ["P", "many", "items"] []) {f : Addr} {fd : FuncData} (F : Fun K "item_of" "item_of" s_item_of f fd) (hm : mg "item_of" = some (.ref f)) (b : Binds K fd ["P", "many", "item"] []) (mt : mg "tuple" = none) (ml : mg "len" = none) (xN : XC K mg "NoProgram") (Gon : Fn P w K mg base 1 "on" ["P", "n"] rOn) : FnN P w K mg base 15 "items_of" ["P", "many", "items"] (rItemsOf 6) := rec_items_of F hm b mt ml xN Gon F2 hm2 b2 6
theorem ok_item_of {f : Addr} {fd : FuncData} (F : Fun K "item_of" "item_of" s_item_of f fd) (hm : mg "item_of" = some (.ref f)) (b : Binds K fd ["P", "many", "item"] []) {f2 : Addr} {fd2 : FuncData} (F2 : Fun K "items_of" "items_of" s_items_of f2 fd2) (hm2 : mg "items_of" = some (.ref f2)) (b2 : Binds K fd2 ["P", "many", "items"] []) (mt : mg "tuple" = none) (ml : mg "len" = none) (xN : XC K mg "NoProgram") (Gon : Fn P w K mg base 1 "on" ["P", "n"] rOn) : FnN P w K mg base 2 "item_of" ["P", "many", "item"] (rItemOf 0) := step_item_of F hm b mt ml xN Gon 0 fun e he => absurd he (Nat.not_lt_zero e)
inductive rIsW : List PyData → Res → Prop
  | mk {i : Int} : rIsW [.int i] (.ok (.dat (.bool true)))
local macro_rules | `(tactic| wtm_at "nm") => `(tactic| first
  | ((with_reducible show Ev _ _ (.Name "thing" _) _); exact nmF (by assumption) 0 (by rfl) rfl (by decide +kernel) (by decide +kernel) (by decide +kernel)))
local macro_rules | `(tactic| wtm_at "own") => `(tactic| first
  | ((with_reducible show EvS _ _ (.Name "thing" _) _ _); exact ownF (by assumption) 0 (by rfl) rfl (by decide +kernel) (by decide +kernel) (by decide +kernel)))
local macro_rules | `(tactic| wtm_at "ownl") => `(tactic| first
  | ((with_reducible show EvL _ _ (.Name "thing" _) _); exact ownlF (by assumption) 0 (by rfl) rfl (by decide +kernel) (by decide +kernel) (by decide +kernel)))
local macro_rules | `(tactic| wtm_at "set") => `(tactic| first
  | ((with_reducible show S1 _ _ (.Assign [.Name "thing" _] _ _) _); refine' setF ?st1 ?st2 0 ?st3 ?st4 ?ste ?st5; (case' st1 => assumption); (case' st2 => assumption); (case' st3 => rfl); (case' st4 => decide +kernel); (case' ste => wtm_at "ev"); (case' st5 => rfl)))
local macro_rules | `(tactic| wtm_at "app") => `(tactic| first
  | ((with_reducible show S1 _ _ (.Expr (.Call (.Attribute (.Name "thing" _) _ _) _ _ _) _) _); refine' appF ?ap1 0 ?ap2 ?ap3 ?ap4 ?ape ?aps ?ap5 ?ap6; (case' ap1 => assumption); (case' ap2 => rfl); (case' ap3 => rfl); (case' ap4 => decide +kernel); (case' ape => wtm_at "ev"); (case' aps => try (wtm_at "sz")); (case' ap5 => decide +kernel); (case' ap6 => decide +kernel)))
local macro_rules | `(tactic| wtm_at "put") => `(tactic| first
  | ((with_reducible show S1 _ _ (.Assign [.Subscript (.Name "thing" _) _ _] _ _) _); refine' putF ?pu1 0 ?pu2 ?pu3 ?pu4 ?pue ?pui ?pu5 ?pu6 ?pu7 ?pu8; (case' pu1 => assumption); (case' pu2 => rfl); (case' pu3 => rfl); (case' pu4 => decide +kernel); (case' pue => wtm_at "ev"); (case' pui => wtm_at "ev"); (case' pu5 => try (wtm_at "sd")); (case' pu6 => try (wtm_at "sd")); (case' pu7 => decide +kernel); (case' pu8 => decide +kernel)))
local macro_rules | `(tactic| wtm_at "reto") => `(tactic| first
  | ((with_reducible show S1 _ _ (.Return (some (.Name "thing" _)) _) _); exact retOF (by assumption) 0 (by rfl) rfl (by decide +kernel) (by decide +kernel) (by decide +kernel)))
local macro_rules | `(tactic| wtm_at "tgt") => `(tactic| first
  | ((with_reducible show PG _ (.Name "thing" _) _); exact tgF (by assumption) (by assumption) 0 (by rfl) (by decide +kernel)))
theorem ok_is_whole {f : Addr} {fd : FuncData} (F : Fun K "is_whole" "is_whole" s_is_whole f fd) (hm : mg "is_whole" = some (.ref f)) (b : Binds K fd ["thing"] []) (mi : mg "isinstance" = none) (m1 : mg "int" = none) (m2 : mg "bool" = none) : Fn P w K mg base 1 "is_whole" ["thing"] rIsW := by
  refine fnF F hm b sc_is_whole (fun ds r h => by cases h; rfl) fun X hX hT ds r h => ?_
  cases h with
  | @mk i =>
    refine' sm_end ?s1
    case' s1 => wtm_at "st"
inductive rPrimeG : List PyData → Res → Prop
  | mk {p : Int} (hp : Prm p) : rPrimeG [.int p] (.ok (.dat (.int p)))
  | no {p : Int} (hp : ¬ Prm p) : rPrimeG [.int p] (.ex "NoPrime")
local macro_rules | `(tactic| wtm_at "R") => `(tactic| first
  | ((with_reducible apply rIsW.mk) <;> first | (with_reducible assumption) | omega)
  | (constructor; all_goals try (wtm_at "sd")))
local macro_rules | `(tactic| wtm_at "nm") => `(tactic| first
  | ((with_reducible show Ev _ _ (.Name "thing" _) _); exact nmF (by assumption) 0 (by rfl) rfl (by decide +kernel) (by decide +kernel) (by decide +kernel))
  | ((with_reducible show Ev _ _ (.Name "by" _) _); exact nmF (by assumption) 1 (by rfl) rfl (by decide +kernel) (by decide +kernel) (by decide +kernel)))
local macro_rules | `(tactic| wtm_at "own") => `(tactic| first
  | ((with_reducible show EvS _ _ (.Name "thing" _) _ _); exact ownF (by assumption) 0 (by rfl) rfl (by decide +kernel) (by decide +kernel) (by decide +kernel))
  | ((with_reducible show EvS _ _ (.Name "by" _) _ _); exact ownF (by assumption) 1 (by rfl) rfl (by decide +kernel) (by decide +kernel) (by decide +kernel)))
local macro_rules | `(tactic| wtm_at "ownl") => `(tactic| first
  | ((with_reducible show EvL _ _ (.Name "thing" _) _); exact ownlF (by assumption) 0 (by rfl) rfl (by decide +kernel) (by decide +kernel) (by decide +kernel))
  | ((with_reducible show EvL _ _ (.Name "by" _) _); exact ownlF (by assumption) 1 (by rfl) rfl (by decide +kernel) (by decide +kernel) (by decide +kernel)))
local macro_rules | `(tactic| wtm_at "set") => `(tactic| first
  | ((with_reducible show S1 _ _ (.Assign [.Name "thing" _] _ _) _); refine' setF ?st1 ?st2 0 ?st3 ?st4 ?ste ?st5; (case' st1 => assumption); (case' st2 => assumption); (case' st3 => rfl); (case' st4 => decide +kernel); (case' ste => wtm_at "ev"); (case' st5 => rfl))
  | ((with_reducible show S1 _ _ (.Assign [.Name "by" _] _ _) _); refine' setF ?st1 ?st2 1 ?st3 ?st4 ?ste ?st5; (case' st1 => assumption); (case' st2 => assumption); (case' st3 => rfl); (case' st4 => decide +kernel); (case' ste => wtm_at "ev"); (case' st5 => rfl)))
local macro_rules | `(tactic| wtm_at "app") => `(tactic| first
  | ((with_reducible show S1 _ _ (.Expr (.Call (.Attribute (.Name "thing" _) _ _) _ _ _) _) _); refine' appF ?ap1 0 ?ap2 ?ap3 ?ap4 ?ape ?aps ?ap5 ?ap6; (case' ap1 => assumption); (case' ap2 => rfl); (case' ap3 => rfl); (case' ap4 => decide +kernel); (case' ape => wtm_at "ev"); (case' aps => try (wtm_at "sz")); (case' ap5 => decide +kernel); (case' ap6 => decide +kernel))
  | ((with_reducible show S1 _ _ (.Expr (.Call (.Attribute (.Name "by" _) _ _) _ _ _) _) _); refine' appF ?ap1 1 ?ap2 ?ap3 ?ap4 ?ape ?aps ?ap5 ?ap6; (case' ap1 => assumption); (case' ap2 => rfl); (case' ap3 => rfl); (case' ap4 => decide +kernel); (case' ape => wtm_at "ev"); (case' aps => try (wtm_at "sz")); (case' ap5 => decide +kernel); (case' ap6 => decide +kernel)))
local macro_rules | `(tactic| wtm_at "put") => `(tactic| first
  | ((with_reducible show S1 _ _ (.Assign [.Subscript (.Name "thing" _) _ _] _ _) _); refine' putF ?pu1 0 ?pu2 ?pu3 ?pu4 ?pue ?pui ?pu5 ?pu6 ?pu7 ?pu8; (case' pu1 => assumption); (case' pu2 => rfl); (case' pu3 => rfl); (case' pu4 => decide +kernel); (case' pue => wtm_at "ev"); (case' pui => wtm_at "ev"); (case' pu5 => try (wtm_at "sd")); (case' pu6 => try (wtm_at "sd")); (case' pu7 => decide +kernel); (case' pu8 => decide +kernel))
  | ((with_reducible show S1 _ _ (.Assign [.Subscript (.Name "by" _) _ _] _ _) _); refine' putF ?pu1 1 ?pu2 ?pu3 ?pu4 ?pue ?pui ?pu5 ?pu6 ?pu7 ?pu8; (case' pu1 => assumption); (case' pu2 => rfl); (case' pu3 => rfl); (case' pu4 => decide +kernel); (case' pue => wtm_at "ev"); (case' pui => wtm_at "ev"); (case' pu5 => try (wtm_at "sd")); (case' pu6 => try (wtm_at "sd")); (case' pu7 => decide +kernel); (case' pu8 => decide +kernel)))
local macro_rules | `(tactic| wtm_at "reto") => `(tactic| first
  | ((with_reducible show S1 _ _ (.Return (some (.Name "thing" _)) _) _); exact retOF (by assumption) 0 (by rfl) rfl (by decide +kernel) (by decide +kernel) (by decide +kernel))
  | ((with_reducible show S1 _ _ (.Return (some (.Name "by" _)) _) _); exact retOF (by assumption) 1 (by rfl) rfl (by decide +kernel) (by decide +kernel) (by decide +kernel)))
local macro_rules | `(tactic| wtm_at "tgt") => `(tactic| first
  | ((with_reducible show PG _ (.Name "thing" _) _); exact tgF (by assumption) (by assumption) 0 (by rfl) (by decide +kernel))
  | ((with_reducible show PG _ (.Name "by" _) _); exact tgF (by assumption) (by assumption) 1 (by rfl) (by decide +kernel)))
theorem ok_primeG {f : Addr} {fd : FuncData} (F : Fun K "prime" "prime" s_prime f fd) (hm : mg "prime" = some (.ref f)) (b : Binds K fd ["thing"] []) (xN : XC K mg "NoPrime") (Giw : Fn P w K mg base 1 "is_whole" ["thing"] rIsW) : FnN P w K mg base 2 "prime" ["thing"] rPrimeG := by
  refine fnN F hm b sc_prime (fun ds r h => by cases h <;> rfl) fun X hX hT ds r h => ?_
  have far : ∀ p : Int, ¬ (3 ≤ p ∧ p ≤ 9999) → ∃ A', SmK true X (A0 ["thing", "by"] [.int p]) (defBody s_prime) (.ex "NoPrime" A') := fun p hp => by
    refine ⟨[.dat (.int p), .un], ?_⟩
    refine' smK_end (s1K_if (v := true) ?c2 (fun _ => smK_end (raiseK hX hT xN ?r3 ?r4)) fun h => nomatch h)
    case' c2 =>
      refine' et_eq ?d2 ?e2
      case' d2 => wtm_at "test"
      case e2 =>
        by_cases z1 : p < 3
        · simp [z1]
        · have z2 : 9999 < p := by omega
          simp [z1, z2]
    case' r3 => decide +kernel
    case' r4 => decide +kernel
  have c3 : ∀ p : Int, 3 ≤ p ∧ p ≤ 9999 → S1 X (A0 ["thing", "by"] [.int p]) ((defBody s_prime).getD 0 (.Pass ⟨0, 0, 0, 0⟩)) (.nx [.dat (.int p), .un]) := fun p hp => by
    refine' s1_if (v := false) ?c3 (fun h => nomatch h) fun _ => sm_nil
    case' c3 =>
      refine' et_eq ?d3 ?e3
      case' d3 => wtm_at "test"
      case e3 =>
        have z1 : ¬ p < 3 := by omega
        have z2 : ¬ 9999 < p := by omega
        simp [z1, z2]
  cases h with
  | @mk p hp =>
    have p3 := hp.lo
    have p9 := hp.hi
    rcases prm_walk p3 p9 with ⟨_, k, k9, k1, k2⟩ | ⟨hn, _⟩
    · refine sm_cons (c3 p ⟨p3, p9⟩) ?_
      refine' sm_cons (A1 := [.dat (.int p), .dat (.int 2)]) ?s4 ?_
      case' s4 => wtm_at "st"
      refine' sm_cons ?s5 ?_
      case' s5 =>
        refine' whileV hX (fun i => [.dat (.int p), .dat (.int (2 + (i : Int)))]) k (fun i => decide ((2 + (i : Int)) * (2 + i) ≤ p)) ?l (fun i hi => ?t) k1 k2 fun i hi => ?b6
        case' l => wtm_at "le"
        case' t =>
          have hc : CMul (2 + (i : Int)) (2 + i) := .inl (by omega)
          wtm_at "test"
        have hsq := of_decide_eq_true (k1 i hi)
        have hlt : 2 + (i : Int) < p := by
          have : 2 * (2 + (i : Int)) ≤ (2 + (i : Int)) * (2 + i) := Int.mul_le_mul_of_nonneg_right (by omega) (by omega)
          omega
        have hd := hp.no (2 + i) (by omega) hlt
        have p0 : 0 < 2 + (i : Int) := by omega
        refine' sm_cons (s1_if ?c7 (fun h => ?f7) fun _ => sm_nil) ?_
        case' c7 => wtm_at "test"
        case f7 => exact absurd (of_decide_eq_true h) hd
        refine' sm_le (sm_one ?s8) ?l8
        case' s8 => wtm_at "st"
        case' l8 => wtm_at "le"
      refine' sm_end ?s9
      case' s9 => wtm_at "st"
    · exact absurd hp hn
  | @no p hp =>
    by_cases hr : 3 ≤ p ∧ p ≤ 9999
    · rcases prm_walk hr.1 hr.2 with ⟨hn, _⟩ | ⟨_, k, k9, k1, k2, k3⟩
      · exact absurd hn hp
      · have sq : ∀ i : Nat, i ≤ k → CMul (2 + (i : Int)) (2 + i) := fun i hi => .inl (by omega)
        refine ⟨[.dat (.int p), .dat (.int (2 + (k : Int)))], smK_cons (c3 p hr) ?_⟩
        refine' smK_cons (A1 := [.dat (.int p), .dat (.int 2)]) ?s14a ?_
        case' s14a => wtm_at "st"
        refine' smK_end (whileFxK hX (fun i => [.dat (.int p), .dat (.int (2 + (i : Int)))]) k ?l10 (fun i hi => ⟨?t10, ?b10⟩) ?t11 ?b11)
        case' l10 => wtm_at "le"
        case' t10 =>
          have hc := sq i (by omega)
          refine' et_eq ?t12 (k1 i hi).1
          case' t12 => wtm_at "test"
        case' b10 =>
          have p0 : 0 < 2 + (i : Int) := by omega
          refine' sm_cons (s1_if (v := false) ?c13 (fun h => nomatch h) fun _ => sm_nil) ?_
          case' c13 =>
            refine' et_eq ?d13 (decide_eq_false (k1 i hi).2)
            case' d13 => wtm_at "test"
          refine' sm_le (sm_one ?s14) ?l14
          case' s14 => wtm_at "st"
          case' l14 => wtm_at "le"
        case' t11 =>
          have hc := sq k (Nat.le_refl _)
          refine' et_eq ?t15 k2
          case' t15 => wtm_at "test"
        case' b11 =>
          have p0 : 0 < 2 + (k : Int) := by omega
          refine' smK_end (s1K_if (v := true) ?c16 (fun _ => smK_end (raiseK hX hT xN ?r5 ?r6)) fun h => nomatch h)
          case' c16 =>
            refine' et_eq ?d16 (decide_eq_true k3)
            case' d16 => wtm_at "test"
          case' r5 => decide +kernel
          case' r6 => decide +kernel
    · exact far p hr
/-- what program takes -/
def ProgOk (n : Int) (its : List Raw) : Prop := 1 ≤ n ∧ n ≤ 3 ∧ cntRs its ≤ 30 ∧ levRs its ≤ 3 ∧ GoodRs n.toNat its
inductive rProgram : List PyData → Res → Prop
  | mk {p : Int} {n : Nat} {k : Bool} {its : List Raw} (hp : Prm p) (hn : 1 ≤ n) (hn2 : n ≤ 3) (hg : GoodRs n its) (hl : levRs its ≤ 3) (hc : cntRs its ≤ 30) : rProgram [.int p, .int n, seqR k its] (.ok (.dat (tIt (its.map (Raw.wheel p)))))
  | noP {p n : Int} {k : Bool} {its : List Raw} (hp : ¬ Prm p) : rProgram [.int p, .int n, seqR k its] (.ex "NoPrime")
  | no {p n : Int} {k : Bool} {its : List Raw} (hp : Prm p) (hb : ¬ ProgOk n its) (hl : levRs its ≤ 6) (hc : cntRs its ≤ 1000) : rProgram [.int p, .int n, seqR k its] (.ex "NoProgram")
local macro_rules | `(tactic| wtm_at "R") => `(tactic| first
  | ((with_reducible apply rPrimeG.mk) <;> first | (with_reducible assumption) | omega)
  | (constructor; all_goals try (wtm_at "sd")))
local macro_rules | `(tactic| wtm_at "nm") => `(tactic| first
  | ((with_reducible show Ev _ _ (.Name "P" _) _); exact nmF (by assumption) 0 (by rfl) rfl (by decide +kernel) (by decide +kernel) (by decide +kernel))
  | ((with_reducible show Ev _ _ (.Name "many" _) _); exact nmF (by assumption) 1 (by rfl) rfl (by decide +kernel) (by decide +kernel) (by decide +kernel))
  | ((with_reducible show Ev _ _ (.Name "items" _) _); exact nmF (by assumption) 2 (by rfl) rfl (by decide +kernel) (by decide +kernel) (by decide +kernel)))
local macro_rules | `(tactic| wtm_at "own") => `(tactic| first
  | ((with_reducible show EvS _ _ (.Name "P" _) _ _); exact ownF (by assumption) 0 (by rfl) rfl (by decide +kernel) (by decide +kernel) (by decide +kernel))
  | ((with_reducible show EvS _ _ (.Name "many" _) _ _); exact ownF (by assumption) 1 (by rfl) rfl (by decide +kernel) (by decide +kernel) (by decide +kernel))
  | ((with_reducible show EvS _ _ (.Name "items" _) _ _); exact ownF (by assumption) 2 (by rfl) rfl (by decide +kernel) (by decide +kernel) (by decide +kernel)))
local macro_rules | `(tactic| wtm_at "ownl") => `(tactic| first
  | ((with_reducible show EvL _ _ (.Name "P" _) _); exact ownlF (by assumption) 0 (by rfl) rfl (by decide +kernel) (by decide +kernel) (by decide +kernel))
  | ((with_reducible show EvL _ _ (.Name "many" _) _); exact ownlF (by assumption) 1 (by rfl) rfl (by decide +kernel) (by decide +kernel) (by decide +kernel))
  | ((with_reducible show EvL _ _ (.Name "items" _) _); exact ownlF (by assumption) 2 (by rfl) rfl (by decide +kernel) (by decide +kernel) (by decide +kernel)))
local macro_rules | `(tactic| wtm_at "set") => `(tactic| first
  | ((with_reducible show S1 _ _ (.Assign [.Name "P" _] _ _) _); refine' setF ?st1 ?st2 0 ?st3 ?st4 ?ste ?st5; (case' st1 => assumption); (case' st2 => assumption); (case' st3 => rfl); (case' st4 => decide +kernel); (case' ste => wtm_at "ev"); (case' st5 => rfl))
  | ((with_reducible show S1 _ _ (.Assign [.Name "many" _] _ _) _); refine' setF ?st1 ?st2 1 ?st3 ?st4 ?ste ?st5; (case' st1 => assumption); (case' st2 => assumption); (case' st3 => rfl); (case' st4 => decide +kernel); (case' ste => wtm_at "ev"); (case' st5 => rfl))
  | ((with_reducible show S1 _ _ (.Assign [.Name "items" _] _ _) _); refine' setF ?st1 ?st2 2 ?st3 ?st4 ?ste ?st5; (case' st1 => assumption); (case' st2 => assumption); (case' st3 => rfl); (case' st4 => decide +kernel); (case' ste => wtm_at "ev"); (case' st5 => rfl)))
local macro_rules | `(tactic| wtm_at "app") => `(tactic| first
  | ((with_reducible show S1 _ _ (.Expr (.Call (.Attribute (.Name "P" _) _ _) _ _ _) _) _); refine' appF ?ap1 0 ?ap2 ?ap3 ?ap4 ?ape ?aps ?ap5 ?ap6; (case' ap1 => assumption); (case' ap2 => rfl); (case' ap3 => rfl); (case' ap4 => decide +kernel); (case' ape => wtm_at "ev"); (case' aps => try (wtm_at "sz")); (case' ap5 => decide +kernel); (case' ap6 => decide +kernel))
  | ((with_reducible show S1 _ _ (.Expr (.Call (.Attribute (.Name "many" _) _ _) _ _ _) _) _); refine' appF ?ap1 1 ?ap2 ?ap3 ?ap4 ?ape ?aps ?ap5 ?ap6; (case' ap1 => assumption); (case' ap2 => rfl); (case' ap3 => rfl); (case' ap4 => decide +kernel); (case' ape => wtm_at "ev"); (case' aps => try (wtm_at "sz")); (case' ap5 => decide +kernel); (case' ap6 => decide +kernel))
  | ((with_reducible show S1 _ _ (.Expr (.Call (.Attribute (.Name "items" _) _ _) _ _ _) _) _); refine' appF ?ap1 2 ?ap2 ?ap3 ?ap4 ?ape ?aps ?ap5 ?ap6; (case' ap1 => assumption); (case' ap2 => rfl); (case' ap3 => rfl); (case' ap4 => decide +kernel); (case' ape => wtm_at "ev"); (case' aps => try (wtm_at "sz")); (case' ap5 => decide +kernel); (case' ap6 => decide +kernel)))
local macro_rules | `(tactic| wtm_at "put") => `(tactic| first
  | ((with_reducible show S1 _ _ (.Assign [.Subscript (.Name "P" _) _ _] _ _) _); refine' putF ?pu1 0 ?pu2 ?pu3 ?pu4 ?pue ?pui ?pu5 ?pu6 ?pu7 ?pu8; (case' pu1 => assumption); (case' pu2 => rfl); (case' pu3 => rfl); (case' pu4 => decide +kernel); (case' pue => wtm_at "ev"); (case' pui => wtm_at "ev"); (case' pu5 => try (wtm_at "sd")); (case' pu6 => try (wtm_at "sd")); (case' pu7 => decide +kernel); (case' pu8 => decide +kernel))
  | ((with_reducible show S1 _ _ (.Assign [.Subscript (.Name "many" _) _ _] _ _) _); refine' putF ?pu1 1 ?pu2 ?pu3 ?pu4 ?pue ?pui ?pu5 ?pu6 ?pu7 ?pu8; (case' pu1 => assumption); (case' pu2 => rfl); (case' pu3 => rfl); (case' pu4 => decide +kernel); (case' pue => wtm_at "ev"); (case' pui => wtm_at "ev"); (case' pu5 => try (wtm_at "sd")); (case' pu6 => try (wtm_at "sd")); (case' pu7 => decide +kernel); (case' pu8 => decide +kernel))
  | ((with_reducible show S1 _ _ (.Assign [.Subscript (.Name "items" _) _ _] _ _) _); refine' putF ?pu1 2 ?pu2 ?pu3 ?pu4 ?pue ?pui ?pu5 ?pu6 ?pu7 ?pu8; (case' pu1 => assumption); (case' pu2 => rfl); (case' pu3 => rfl); (case' pu4 => decide +kernel); (case' pue => wtm_at "ev"); (case' pui => wtm_at "ev"); (case' pu5 => try (wtm_at "sd")); (case' pu6 => try (wtm_at "sd")); (case' pu7 => decide +kernel); (case' pu8 => decide +kernel)))
local macro_rules | `(tactic| wtm_at "reto") => `(tactic| first
  | ((with_reducible show S1 _ _ (.Return (some (.Name "P" _)) _) _); exact retOF (by assumption) 0 (by rfl) rfl (by decide +kernel) (by decide +kernel) (by decide +kernel))
  | ((with_reducible show S1 _ _ (.Return (some (.Name "many" _)) _) _); exact retOF (by assumption) 1 (by rfl) rfl (by decide +kernel) (by decide +kernel) (by decide +kernel))
  | ((with_reducible show S1 _ _ (.Return (some (.Name "items" _)) _) _); exact retOF (by assumption) 2 (by rfl) rfl (by decide +kernel) (by decide +kernel) (by decide +kernel)))
local macro_rules | `(tactic| wtm_at "tgt") => `(tactic| first
  | ((with_reducible show PG _ (.Name "P" _) _); exact tgF (by assumption) (by assumption) 0 (by rfl) (by decide +kernel))
  | ((with_reducible show PG _ (.Name "many" _) _); exact tgF (by assumption) (by assumption) 1 (by rfl) (by decide +kernel))
  | ((with_reducible show PG _ (.Name "items" _) _); exact tgF (by assumption) (by assumption) 2 (by rfl) (by decide +kernel)))
theorem ok_program {f : Addr} {fd : FuncData} (F : Fun K "program" "program" s_program f fd) (hm : mg "program" = some (.ref f)) (b : Binds K fd ["P", "many", "items"] []) (xN : XC K mg "NoProgram") (Gpr : FnN P w K mg base 2 "prime" ["thing"] rPrimeG) (Gin : Fn P w K mg base 7 "items_in" ["items"] (rItemsIn 6)) (Gde : Fn P w K mg base 7 "agains_deep" ["items"] (rDeep 6)) (Gio : FnN P w K mg base 15 "items_of" ["P", "many", "items"] (rItemsOf 6)) : FnN P w K mg base 16 "program" ["P", "many", "items"] rProgram := by
  refine fnN F hm b sc_program (fun ds r h => by cases h <;> rfl) fun X hX hT ds r h => ?_
  have Gpr' := Gpr.fn
  cases h with
  | @mk p n k its hp hn hn2 hg hl hc =>
    have p3 := hp.lo
    refine' sm_cons ?s1 ?_
    case' s1 =>
      refine' s1_expr (c := .dat (.int p)) ?e1
      case' e1 => wtm_at "ev"
    refine' sm_cons (s1_if (v := false) ?c2 (fun h => nomatch h) fun _ => sm_nil) ?_
    case' c2 =>
      refine' et_eq ?c3 ?c4
      case' c3 => wtm_at "test"
      case c4 =>
        have z1 : ¬ (n : Int) < 1 := by omega
        have z2 : ¬ 3 < (n : Int) := by omega
        simp only [z1, z2, decide_false, Bool.or_false]
    refine' sm_cons (s1_if (v := false) ?c5 (fun h => nomatch h) fun _ => sm_nil) ?_
    case' c5 =>
      refine' et_eq (ew_et (ew_or (v := false) (u := false) (et_eq (et_cmpR (d1 := .int (cntRs its : Nat)) (d2 := .int 30) (callF hX Gin (by decide) ?e6 ?f6 (rItemsIn.mk (k := k) (its := its) (by omega)) ?g6) ?h6 (cmpR_D .gt)) ?i6) fun _ => ew_or1 (et_eq (et_cmpR (d1 := .int (levRs its : Nat)) (d2 := .int 3) (callF hX Gde (by decide) ?e7 ?f7 (rDeep.mk (k := k) (its := its) (by omega)) ?g7) ?h7 (cmpR_D .gt)) ?i7))) rfl
      case' e6 => decide +kernel
      case' f6 => wtm_at "args"
      case' g6 => decide +kernel
      case' h6 => wtm_at "ev"
      case i6 => exact decide_eq_false (by omega)
      case' e7 => decide +kernel
      case' f7 => wtm_at "args"
      case' g7 => decide +kernel
      case' h7 => wtm_at "ev"
      case i7 => exact decide_eq_false (by omega)
    refine' sm_end (s1_retE (callF hX Gio.fn (by decide) ?e8 ?f8 (rItemsOf.mk (k := k) (its := its) (by omega) hg (by omega) (by omega) (by omega)) ?g8) rfl)
    case' e8 => decide +kernel
    case' f8 => wtm_at "args"
    case' g8 => decide +kernel
  | @noP p n k its hp =>
    refine ⟨[.dat (.int p), .dat (.int n), .dat (seqR k its)], ?_⟩
    refine' smK_end (s1K_expr (callXN hX Gpr (by decide) ?e11 ?f11 (rPrimeG.no hp) ?g11))
    case' e11 => decide +kernel
    case' f11 => wtm_at "args"
    case' g11 => decide +kernel
  | @no p n k its hp hb hl hc =>
    have p3 := hp.lo
    refine ⟨[.dat (.int p), .dat (.int n), .dat (seqR k its)], ?_⟩
    refine' smK_cons (A1 := [.dat (.int p), .dat (.int n), .dat (seqR k its)]) ?s21 ?_
    case' s21 =>
      refine' s1_expr (c := .dat (.int p)) ?e21
      case' e21 => wtm_at "ev"
    by_cases hn : 1 ≤ n ∧ n ≤ 3
    · obtain ⟨n, rfl⟩ := Int.eq_ofNat_of_zero_le (show 0 ≤ n by omega)
      refine' smK_cons (s1_if (v := false) ?c22 (fun h => nomatch h) fun _ => sm_nil) ?_
      case' c22 =>
        refine' et_eq ?c23 ?c24
        case' c23 => wtm_at "test"
        case c24 =>
          have z1 : ¬ (n : Int) < 1 := by omega
          have z2 : ¬ 3 < (n : Int) := by omega
          simp only [z1, z2, decide_false, Bool.or_false]
      by_cases hcl : cntRs its ≤ 30 ∧ levRs its ≤ 3
      · have hg : ¬ GoodRs n its := fun z => hb ⟨hn.1, hn.2, hcl.1, hcl.2, z⟩
        refine' smK_cons (s1_if (v := false) ?c25 (fun h => nomatch h) fun _ => sm_nil) ?_
        case' c25 =>
          refine' et_eq (ew_et (ew_or (v := false) (u := false) (et_eq (et_cmpR (d1 := .int (cntRs its : Nat)) (d2 := .int 30) (callF hX Gin (by decide) ?e26 ?f26 (rItemsIn.mk (k := k) (its := its) hl) ?g26) ?h26 (cmpR_D .gt)) ?i26) fun _ => ew_or1 (et_eq (et_cmpR (d1 := .int (levRs its : Nat)) (d2 := .int 3) (callF hX Gde (by decide) ?e27 ?f27 (rDeep.mk (k := k) (its := its) hl) ?g27) ?h27 (cmpR_D .gt)) ?i27))) rfl
          case' e26 => decide +kernel
          case' f26 => wtm_at "args"
          case' g26 => decide +kernel
          case' h26 => wtm_at "ev"
          case i26 => exact decide_eq_false (by omega)
          case' e27 => decide +kernel
          case' f27 => wtm_at "args"
          case' g27 => decide +kernel
          case' h27 => wtm_at "ev"
          case i27 => exact decide_eq_false (by omega)
        refine' smK_end (s1K_ret (callXN hX Gio (by decide) ?e28 ?f28 (rItemsOf.no (p := p) (k := k) (its := its) (n := n) (by omega) hg hl hc (by omega)) ?g28))
        case' e28 => decide +kernel
        case' f28 => wtm_at "args"
        case' g28 => decide +kernel
      · refine' smK_end (s1K_if (v := true) ?c35 (fun _ => smK_end (raiseK hX hT xN ?r1 ?r2)) fun h => nomatch h)
        case' c35 =>
          refine' et_eq (ew_et (ew_or (v := decide (30 < (cntRs its : Int))) (u := decide (3 < (levRs its : Int))) (et_eq (et_cmpR (d1 := .int (cntRs its : Nat)) (d2 := .int 30) (callF hX Gin (by decide) ?e36 ?f36 (rItemsIn.mk (k := k) (its := its) hl) ?g36) ?h36 (cmpR_D .gt)) ?i36) fun _ => ew_or1 (et_eq (et_cmpR (d1 := .int (levRs its : Nat)) (d2 := .int 3) (callF hX Gde (by decide) ?e37 ?f37 (rDeep.mk (k := k) (its := its) hl) ?g37) ?h37 (cmpR_D .gt)) ?i37))) ?j37
          case' e36 => decide +kernel
          case' f36 => wtm_at "args"
          case' g36 => decide +kernel
          case' h36 => wtm_at "ev"
          case i36 => rfl
          case' e37 => decide +kernel
          case' f37 => wtm_at "args"
          case' g37 => decide +kernel
          case' h37 => wtm_at "ev"
          case i37 => rfl
          case j37 =>
            by_cases z : cntRs its ≤ 30
            · have : 3 < (levRs its : Int) := by omega
              simp [this]
            · have : 30 < (cntRs its : Int) := by omega
              simp [this]
        case' r1 => decide +kernel
        case' r2 => decide +kernel
    · refine' smK_end (s1K_if (v := true) ?c45 (fun _ => smK_end (raiseK hX hT xN ?r3 ?r4)) fun h => nomatch h)
      case' c45 =>
        refine' et_eq ?c46 ?c47
        case' c46 => wtm_at "test"
        case c47 =>
          by_cases z1 : n < 1
          · simp [z1]
          · have z2 : 3 < n := by omega
            simp [z1, z2]
      case' r3 => decide +kernel
      case' r4 => decide +kernel
end
end W

namespace W
open PySem PySem.Spec PyProof.Rows L2 LR
/-! plain data: whole numbers, texts, tuples, lists -/
mutual
def plainD : PyData → Bool
  | .int _ => true
  | .str z => PyData.strOk z
  | .tuple ds => plainDs ds
  | .list ds => plainDs ds
  | _ => false
def plainDs : List PyData → Bool
  | [] => true
  | d :: r => plainD d && plainDs r
end
mutual
theorem plain_lay : ∀ d : PyData, plainD d = true → d.canLay0 = true
  | .int i, _ => by simp [PyData.canLay0]
  | .str z, h => by simp only [plainD] at h; simp only [PyData.canLay0, h]
  | .tuple ds, h => by simp only [plainD] at h; simp only [PyData.canLay0]; exact plain_lays ds h
  | .list ds, h => by simp only [plainD] at h; simp only [PyData.canLay0]; exact plain_lays ds h
  | .none, h => by simp [plainD] at h
  | .bool _, h => by simp [plainD] at h
  | .dict _, h => by simp [plainD] at h
theorem plain_lays : ∀ ds : List PyData, plainDs ds = true → PyData.canLayAll0 ds = true
  | [], _ => by simp [PyData.canLayAll0]
  | d :: r, h => by
    simp only [plainDs, Bool.and_eq_true] at h
    simp only [PyData.canLayAll0, plain_lay d h.1, plain_lays r h.2, Bool.and_true]
end
mutual
theorem plain_eqv : ∀ d : PyData, plainD d = true → PyData.eqv d d = true
  | .int i, _ => by simp [PyData.eqv]
  | .str z, h => by simp [PyData.eqv]
  | .tuple ds, h => by simp only [plainD] at h; simp only [PyData.eqv]; exact plain_eqvs ds h
  | .list ds, h => by simp only [plainD] at h; simp only [PyData.eqv]; exact plain_eqvs ds h
  | .none, h => by simp [plainD] at h
  | .bool _, h => by simp [plainD] at h
  | .dict _, h => by simp [plainD] at h
theorem plain_eqvs : ∀ ds : List PyData, plainDs ds = true → PyData.eqvAll ds ds = true
  | [], _ => by simp [PyData.eqvAll]
  | d :: r, h => by
    simp only [plainDs, Bool.and_eq_true] at h
    simp only [PyData.eqvAll, plain_eqv d h.1, plain_eqvs r h.2, Bool.and_true]
end
theorem plain_mem : ∀ {ds : List PyData}, plainDs ds = true → ∀ d ∈ ds, plainD d = true
  | d :: r, h, x, hx => by
    simp only [plainDs, Bool.and_eq_true] at h
    rcases List.mem_cons.mp hx with rfl | hx
    · exact h.1
    · exact plain_mem h.2 x hx
theorem plain_of : ∀ {ds : List PyData}, (∀ d ∈ ds, plainD d = true) → plainDs ds = true
  | [], _ => by simp [plainDs]
  | d :: r, h => by
    simp only [plainDs, Bool.and_eq_true]
    exact ⟨h d (List.mem_cons_self ..), plain_of fun x hx => h x (List.mem_cons_of_mem _ hx)⟩
theorem dep_mem : ∀ {ds : List PyData} {k : Nat}, PyData.depthAll ds ≤ k → ∀ d ∈ ds, d.depth ≤ k
  | d :: r, k, h, x, hx => by
    simp only [PyData.depthAll] at h
    rcases List.mem_cons.mp hx with rfl | hx
    · omega
    · exact dep_mem (ds := r) (by omega) x hx
theorem dep_of : ∀ {ds : List PyData} {k : Nat}, (∀ d ∈ ds, d.depth ≤ k) → PyData.depthAll ds ≤ k
  | [], k, _ => by simp [PyData.depthAll]
  | d :: r, k, h => by
    simp only [PyData.depthAll]
    have := h d (List.mem_cons_self ..)
    have := dep_of (ds := r) (k := k) fun x hx => h x (List.mem_cons_of_mem _ hx)
    omega
theorem plain_ints (f : List Int) : plainDs (f.map .int) = true := plain_of fun d hd => by
  obtain ⟨i, _, rfl⟩ := List.mem_map.mp hd
  simp [plainD]
theorem strOk_set : PyData.strOk (Str.ofString "set") = true := by decide +kernel
theorem strOk_again : PyData.strOk (Str.ofString "again") = true := by decide +kernel
mutual
theorem plain_enc : ∀ i : Item, plainD i.enc = true
  | .set x f => by rw [enc_set]; simp only [plainD, plainDs, strOk_set, plain_ints, Bool.and_true]
  | .again n its => by rw [enc_again]; simp only [plainD, plainDs, strOk_again, plain_encs its, Bool.and_true]
theorem plain_encs : ∀ its : List Item, plainDs (its.map Item.enc) = true
  | [] => by simp [plainDs]
  | i :: r => by rw [List.map_cons]; simp only [plainDs, plain_enc i, plain_encs r, Bool.and_true]
end
theorem plain_K {k : Bool} {ds : List PyData} (h : plainDs ds = true) : plainD (seqK k ds) = true := by
  cases k <;> (simp only [seqK]; simp only [plainD, h, if_true, if_false, Bool.false_eq_true])
theorem dep_K {k : Bool} {ds : List PyData} : (seqK k ds).depth = PyData.depthAll ds + 1 := by
  cases k <;> simp [seqK, PyData.depth]
mutual
theorem plain_encR : ∀ i : Raw, plainD i.enc = true
  | .set x f => by rw [encR_set]; simp only [plainD, plainDs, strOk_set, plain_ints, Bool.and_true]
  | .again n k its => by rw [encR_again]; simp only [plainD, plainDs, strOk_again, plain_K (plain_encRs its), Bool.and_true]
theorem plain_encRs : ∀ its : List Raw, plainDs (its.map Raw.enc) = true
  | [] => by simp [plainDs]
  | i :: r => by rw [List.map_cons]; simp only [plainDs, plain_encR i, plain_encRs r, Bool.and_true]
end
mutual
theorem dep_encR : ∀ i : Raw, i.enc.depth ≤ 2 + 2 * i.lev
  | .set x f => by
    rw [encR_set, levR_set]
    simp only [PyData.depth, PyData.depthAll]
    have := encInt.depAll f
    omega
  | .again n k its => by
    rw [encR_again, levR_again]
    simp only [PyData.depth, PyData.depthAll, dep_K]
    have := dep_encRs its
    omega
theorem dep_encRs : ∀ its : List Raw, PyData.depthAll (its.map Raw.enc) ≤ 2 + 2 * levRs its
  | [] => by simp [PyData.depthAll]
  | i :: r => by
    rw [List.map_cons, levRs_cons]
    simp only [PyData.depthAll]
    have := dep_encR i
    have := dep_encRs r
    omega
end
theorem shaped_plain {d : PyData} (h : plainD d = true) (hd : d.depth ≤ 64) : SeqAt.shaped d = true := by
  unfold SeqAt.shaped
  rw [plain_lay d h, Bool.true_and]
  exact decide_eq_true hd
mutual
/-- .. moved by multiples of the prime -/
def Item.raw (p : Int) : Item → Raw
  | .set x f => .set x (f.map fun n => n + p * (n % 5 - 2))
  | .again m its => .again m (decide (m % 2 = 0)) (raws p its)
def raws (p : Int) : List Item → List Raw
  | [] => []
  | i :: r => i.raw p :: raws p r
end
theorem raws_map (p : Int) : ∀ its, raws p its = its.map (Item.raw p)
  | [] => by simp [raws]
  | i :: r => by rw [raws, List.map_cons, raws_map p r]
theorem raw_set {p x : Int} {f : List Int} : (Item.set x f).raw p = .set x (f.map fun n => n + p * (n % 5 - 2)) := by rw [Item.raw]
theorem raw_again {p m : Int} {its : List Item} : (Item.again m its).raw p = .again m (decide (m % 2 = 0)) (its.map (Item.raw p)) := by rw [Item.raw, raws_map]
section
variable {p : Int} {n : Nat}
mutual
theorem raw_ok : ∀ i : Item, i.Good p n → (i.raw p).wheel p = i ∧ (i.raw p).Good n ∧ (i.raw p).lev = i.lev ∧ (i.raw p).cnt = i.cnt
  | .set x f, h => by
    obtain ⟨h1, h2, h3, h4⟩ := good_set.mp h
    rw [raw_set]
    refine ⟨?_, goodR_set.mpr ⟨h1, h2, by rw [List.length_map]; exact h3⟩, by rw [levR_set, lev_set], by rw [cntR_set, cnt_set]⟩
    rw [wheel_set, List.map_map]
    congr 1
    conv => rhs; rw [← List.map_id f]
    refine List.map_congr_left fun y hy => ?_
    show (y + p * (y % 5 - 2)) % p = y
    rw [Int.add_mul_emod_self_left]
    exact Int.emod_eq_of_lt (h4 y hy).1 (h4 y hy).2
  | .again m its, h => by
    obtain ⟨h1, h2, h3⟩ := good_again.mp h
    obtain ⟨a, b, c, d⟩ := raws_ok its h3
    rw [raw_again]
    refine ⟨by rw [wheel_again, a], goodR_again.mpr ⟨h1, h2, b⟩, by rw [levR_again, lev_again, c], by rw [cntR_again, cnt_again, d]⟩
theorem raws_ok : ∀ its : List Item, Goods p n its → (its.map (Item.raw p)).map (Raw.wheel p) = its ∧ GoodRs n (its.map (Item.raw p)) ∧ levRs (its.map (Item.raw p)) = levs its ∧ cntRs (its.map (Item.raw p)) = cnts its
  | [], _ => ⟨rfl, by simp [GoodRs], by rw [List.map_nil, levRs_nil, levs_nil], by rw [List.map_nil, cntRs_nil, cnts_nil]⟩
  | i :: r, h => by
    have h2 := goods_iff.mp h
    obtain ⟨a, b, c, d⟩ := raw_ok i (h2 i (List.mem_cons_self ..))
    obtain ⟨a', b', c', d'⟩ := raws_ok r (goods_iff.mpr fun j hj => h2 j (List.mem_cons_of_mem _ hj))
    simp only [List.map_cons]
    refine ⟨by rw [a, a'], ?_, by rw [levRs_cons, levs_cons, c, c'], by rw [cntRs_cons, cnts_cons, d, d']⟩
    rw [GoodRs]
    exact ⟨b, b'⟩
end
end
mutual
/-- an item handed in as it is -/
def Item.same : Item → Raw
  | .set x f => .set x f
  | .again m its => .again m false (sames its)
def sames : List Item → List Raw
  | [] => []
  | i :: r => i.same :: sames r
end
theorem sames_map : ∀ its, sames its = its.map Item.same
  | [] => by simp [sames]
  | i :: r => by rw [sames, List.map_cons, sames_map r]
theorem same_set {x : Int} {f : List Int} : (Item.set x f).same = .set x f := by rw [Item.same]
theorem same_again {m : Int} {its : List Item} : (Item.again m its).same = .again m false (its.map Item.same) := by rw [Item.same, sames_map]
section
variable {p : Int} {n : Nat}
mutual
theorem same_ok : ∀ i : Item, i.Good p n → (i.same).wheel p = i ∧ (i.same).Good n ∧ (i.same).lev = i.lev ∧ (i.same).cnt = i.cnt ∧ i.same.enc = i.enc
  | .set x f, h => by
    obtain ⟨h1, h2, h3, h4⟩ := good_set.mp h
    rw [same_set]
    refine ⟨?_, goodR_set.mpr ⟨h1, h2, h3⟩, by rw [levR_set, lev_set], by rw [cntR_set, cnt_set], by rw [encR_set, enc_set]⟩
    rw [wheel_set]
    congr 1
    conv => rhs; rw [← List.map_id f]
    refine List.map_congr_left fun y hy => ?_
    exact Int.emod_eq_of_lt (h4 y hy).1 (h4 y hy).2
  | .again m its, h => by
    obtain ⟨h1, h2, h3⟩ := good_again.mp h
    obtain ⟨a, b, c, d, e⟩ := sames_ok its h3
    rw [same_again]
    refine ⟨by rw [wheel_again, a], goodR_again.mpr ⟨h1, h2, b⟩, by rw [levR_again, lev_again, c], by rw [cntR_again, cnt_again, d], ?_⟩
    rw [encR_again, enc_again]
    show PyData.tuple [_, _, seqK false _] = _
    rw [e]
    rfl
theorem sames_ok : ∀ its : List Item, Goods p n its → (its.map Item.same).map (Raw.wheel p) = its ∧ GoodRs n (its.map Item.same) ∧ levRs (its.map Item.same) = levs its ∧ cntRs (its.map Item.same) = cnts its ∧ (its.map Item.same).map Raw.enc = its.map Item.enc
  | [], _ => ⟨rfl, by simp [GoodRs], by rw [List.map_nil, levRs_nil, levs_nil], by rw [List.map_nil, cntRs_nil, cnts_nil], rfl⟩
  | i :: r, h => by
    have h2 := goods_iff.mp h
    obtain ⟨a, b, c, d, e⟩ := same_ok i (h2 i (List.mem_cons_self ..))
    obtain ⟨a', b', c', d', e'⟩ := sames_ok r (goods_iff.mpr fun j hj => h2 j (List.mem_cons_of_mem _ hj))
    simp only [List.map_cons]
    refine ⟨by rw [a, a'], ?_, by rw [levRs_cons, levs_cons, c, c'], by rw [cntRs_cons, cnts_cons, d, d'], by rw [e, e']⟩
    rw [GoodRs]
    exact ⟨b, b'⟩
end
end
end W

namespace W
open PySem PySem.Spec PyProof.Rows L2 LR
/-! short tuples of whole numbers, texts, tuples -/
mutual
def tupD : PyData → Bool
  | .int _ => true
  | .str _ => true
  | .tuple ds => decide (ds.length ≤ 1000) && tupDs ds
  | _ => false
def tupDs : List PyData → Bool
  | [] => true
  | d :: r => tupD d && tupDs r
end
theorem tup_mem : ∀ {ds : List PyData}, tupDs ds = true → ∀ d ∈ ds, tupD d = true
  | d :: r, h, x, hx => by
    simp only [tupDs, Bool.and_eq_true] at h
    rcases List.mem_cons.mp hx with rfl | hx
    · exact h.1
    · exact tup_mem h.2 x hx
theorem tup_of : ∀ {ds : List PyData}, (∀ d ∈ ds, tupD d = true) → tupDs ds = true
  | [], _ => by simp [tupDs]
  | d :: r, h => by
    simp only [tupDs, Bool.and_eq_true]
    exact ⟨h d (List.mem_cons_self ..), tup_of fun x hx => h x (List.mem_cons_of_mem _ hx)⟩
theorem tup_ints (f : List Int) : tupDs (f.map .int) = true := tup_of fun d hd => by
  obtain ⟨i, _, rfl⟩ := List.mem_map.mp hd
  simp [tupD]
section
variable {p : Int} {n : Nat}
mutual
theorem tup_enc (hn : n ≤ 100) : ∀ i : Item, i.Good p n → i.cnt ≤ 1000 → tupD i.enc = true
  | .set x f, h, _ => by
    obtain ⟨h1, h2, h3, h4⟩ := good_set.mp h
    have e : (f.map PyData.int).length ≤ 1000 := by rw [List.length_map]; omega
    rw [enc_set]
    simp only [tupD, tupDs, tup_ints, decide_eq_true e, Bool.and_true, List.length_cons, List.length_nil]
    exact decide_eq_true (by omega)
  | .again m its, h, hc => by
    obtain ⟨h1, h2, h3⟩ := good_again.mp h
    rw [cnt_again] at hc
    have e : (its.map Item.enc).length ≤ 1000 := by rw [List.length_map]; have := len_le_cnts its; omega
    rw [enc_again]
    simp only [tupD, tupDs, tup_encs hn its h3 (by omega), decide_eq_true e, Bool.and_true, List.length_cons, List.length_nil]
    exact decide_eq_true (by omega)
theorem tup_encs (hn : n ≤ 100) : ∀ its : List Item, Goods p n its → cnts its ≤ 1000 → tupDs (its.map Item.enc) = true
  | [], _, _ => by simp [tupDs]
  | i :: r, h, hc => by
    have h2 := goods_iff.mp h
    rw [cnts_cons] at hc
    rw [List.map_cons]
    simp only [tupDs, tup_enc hn i (h2 i (List.mem_cons_self ..)) (by omega), tup_encs hn r (goods_iff.mpr fun j hj => h2 j (List.mem_cons_of_mem _ hj)) (by omega), Bool.and_true]
end
theorem tup_its (hn : n ≤ 100) {its : List Item} (h : Goods p n its) (hc : cnts its ≤ 1000) : tupD (tIt its) = true := by
  have e : (its.map Item.enc).length ≤ 1000 := by rw [List.length_map]; have := len_le_cnts its; omega
  simp only [tupD, tup_encs hn its h hc, decide_eq_true e, Bool.and_true]
end
theorem cnt_le_cnts' : ∀ {its : List Item} {i : Item}, i ∈ its → i.cnt ≤ cnts its
  | j :: r, i, h => by
    rw [cnts_cons]
    rcases List.mem_cons.mp h with rfl | h
    · omega
    · have := cnt_le_cnts' h
      omega
section
variable {P : Program} {w : World} {K : PySem.W.Frag} {mg : Str → Option Value} {base : Heap}
inductive rLAlike (d : Nat) : List PyData → Res → Prop
  | mk {x : PyData} (h : tupD x = true) (hd : x.depth ≤ d) : rLAlike d [x, x] (.ok (.dat (.bool true)))
local macro_rules | `(tactic| wtm_at "nm") => `(tactic| first
  | ((with_reducible show Ev _ _ (.Name "found" _) _); exact nmF (by assumption) 0 (by rfl) rfl (by decide +kernel) (by decide +kernel) (by decide +kernel))
  | ((with_reducible show Ev _ _ (.Name "due" _) _); exact nmF (by assumption) 1 (by rfl) rfl (by decide +kernel) (by decide +kernel) (by decide +kernel))
  | ((with_reducible show Ev _ _ (.Name "k" _) _); exact nmF (by assumption) 2 (by rfl) rfl (by decide +kernel) (by decide +kernel) (by decide +kernel)))
local macro_rules | `(tactic| wtm_at "own") => `(tactic| first
  | ((with_reducible show EvS _ _ (.Name "found" _) _ _); exact ownF (by assumption) 0 (by rfl) rfl (by decide +kernel) (by decide +kernel) (by decide +kernel))
  | ((with_reducible show EvS _ _ (.Name "due" _) _ _); exact ownF (by assumption) 1 (by rfl) rfl (by decide +kernel) (by decide +kernel) (by decide +kernel))
  | ((with_reducible show EvS _ _ (.Name "k" _) _ _); exact ownF (by assumption) 2 (by rfl) rfl (by decide +kernel) (by decide +kernel) (by decide +kernel)))
local macro_rules | `(tactic| wtm_at "ownl") => `(tactic| first
  | ((with_reducible show EvL _ _ (.Name "found" _) _); exact ownlF (by assumption) 0 (by rfl) rfl (by decide +kernel) (by decide +kernel) (by decide +kernel))
  | ((with_reducible show EvL _ _ (.Name "due" _) _); exact ownlF (by assumption) 1 (by rfl) rfl (by decide +kernel) (by decide +kernel) (by decide +kernel))
  | ((with_reducible show EvL _ _ (.Name "k" _) _); exact ownlF (by assumption) 2 (by rfl) rfl (by decide +kernel) (by decide +kernel) (by decide +kernel)))
local macro_rules | `(tactic| wtm_at "set") => `(tactic| first
  | ((with_reducible show S1 _ _ (.Assign [.Name "found" _] _ _) _); refine' setF ?st1 ?st2 0 ?st3 ?st4 ?ste ?st5; (case' st1 => assumption); (case' st2 => assumption); (case' st3 => rfl); (case' st4 => decide +kernel); (case' ste => wtm_at "ev"); (case' st5 => rfl))
  | ((with_reducible show S1 _ _ (.Assign [.Name "due" _] _ _) _); refine' setF ?st1 ?st2 1 ?st3 ?st4 ?ste ?st5; (case' st1 => assumption); (case' st2 => assumption); (case' st3 => rfl); (case' st4 => decide +kernel); (case' ste => wtm_at "ev"); (case' st5 => rfl))
  | ((with_reducible show S1 _ _ (.Assign [.Name "k" _] _ _) _); refine' setF ?st1 ?st2 2 ?st3 ?st4 ?ste ?st5; (case' st1 => assumption); (case' st2 => assumption); (case' st3 => rfl); (case' st4 => decide +kernel); (case' ste => wtm_at "ev"); (case' st5 => rfl)))
local macro_rules | `(tactic| wtm_at "app") => `(tactic| first
  | ((with_reducible show S1 _ _ (.Expr (.Call (.Attribute (.Name "found" _) _ _) _ _ _) _) _); refine' appF ?ap1 0 ?ap2 ?ap3 ?ap4 ?ape ?aps ?ap5 ?ap6; (case' ap1 => assumption); (case' ap2 => rfl); (case' ap3 => rfl); (case' ap4 => decide +kernel); (case' ape => wtm_at "ev"); (case' aps => try (wtm_at "sz")); (case' ap5 => decide +kernel); (case' ap6 => decide +kernel))
  | ((with_reducible show S1 _ _ (.Expr (.Call (.Attribute (.Name "due" _) _ _) _ _ _) _) _); refine' appF ?ap1 1 ?ap2 ?ap3 ?ap4 ?ape ?aps ?ap5 ?ap6; (case' ap1 => assumption); (case' ap2 => rfl); (case' ap3 => rfl); (case' ap4 => decide +kernel); (case' ape => wtm_at "ev"); (case' aps => try (wtm_at "sz")); (case' ap5 => decide +kernel); (case' ap6 => decide +kernel))
  | ((with_reducible show S1 _ _ (.Expr (.Call (.Attribute (.Name "k" _) _ _) _ _ _) _) _); refine' appF ?ap1 2 ?ap2 ?ap3 ?ap4 ?ape ?aps ?ap5 ?ap6; (case' ap1 => assumption); (case' ap2 => rfl); (case' ap3 => rfl); (case' ap4 => decide +kernel); (case' ape => wtm_at "ev"); (case' aps => try (wtm_at "sz")); (case' ap5 => decide +kernel); (case' ap6 => decide +kernel)))
local macro_rules | `(tactic| wtm_at "put") => `(tactic| first
  | ((with_reducible show S1 _ _ (.Assign [.Subscript (.Name "found" _) _ _] _ _) _); refine' putF ?pu1 0 ?pu2 ?pu3 ?pu4 ?pue ?pui ?pu5 ?pu6 ?pu7 ?pu8; (case' pu1 => assumption); (case' pu2 => rfl); (case' pu3 => rfl); (case' pu4 => decide +kernel); (case' pue => wtm_at "ev"); (case' pui => wtm_at "ev"); (case' pu5 => try (wtm_at "sd")); (case' pu6 => try (wtm_at "sd")); (case' pu7 => decide +kernel); (case' pu8 => decide +kernel))
  | ((with_reducible show S1 _ _ (.Assign [.Subscript (.Name "due" _) _ _] _ _) _); refine' putF ?pu1 1 ?pu2 ?pu3 ?pu4 ?pue ?pui ?pu5 ?pu6 ?pu7 ?pu8; (case' pu1 => assumption); (case' pu2 => rfl); (case' pu3 => rfl); (case' pu4 => decide +kernel); (case' pue => wtm_at "ev"); (case' pui => wtm_at "ev"); (case' pu5 => try (wtm_at "sd")); (case' pu6 => try (wtm_at "sd")); (case' pu7 => decide +kernel); (case' pu8 => decide +kernel))
  | ((with_reducible show S1 _ _ (.Assign [.Subscript (.Name "k" _) _ _] _ _) _); refine' putF ?pu1 2 ?pu2 ?pu3 ?pu4 ?pue ?pui ?pu5 ?pu6 ?pu7 ?pu8; (case' pu1 => assumption); (case' pu2 => rfl); (case' pu3 => rfl); (case' pu4 => decide +kernel); (case' pue => wtm_at "ev"); (case' pui => wtm_at "ev"); (case' pu5 => try (wtm_at "sd")); (case' pu6 => try (wtm_at "sd")); (case' pu7 => decide +kernel); (case' pu8 => decide +kernel)))
local macro_rules | `(tactic| wtm_at "reto") => `(tactic| first
  | ((with_reducible show S1 _ _ (.Return (some (.Name "found" _)) _) _); exact retOF (by assumption) 0 (by rfl) rfl (by decide +kernel) (by decide +kernel) (by decide +kernel))
  | ((with_reducible show S1 _ _ (.Return (some (.Name "due" _)) _) _); exact retOF (by assumption) 1 (by rfl) rfl (by decide +kernel) (by decide +kernel) (by decide +kernel))
  | ((with_reducible show S1 _ _ (.Return (some (.Name "k" _)) _) _); exact retOF (by assumption) 2 (by rfl) rfl (by decide +kernel) (by decide +kernel) (by decide +kernel)))
local macro_rules | `(tactic| wtm_at "tgt") => `(tactic| first
  | ((with_reducible show PG _ (.Name "found" _) _); exact tgF (by assumption) (by assumption) 0 (by rfl) (by decide +kernel))
  | ((with_reducible show PG _ (.Name "due" _) _); exact tgF (by assumption) (by assumption) 1 (by rfl) (by decide +kernel))
  | ((with_reducible show PG _ (.Name "k" _) _); exact tgF (by assumption) (by assumption) 2 (by rfl) (by decide +kernel)))
theorem rec_lalike {f : Addr} {fd : FuncData} (F : Fun K "_law_alike" "_law_alike" s__law_alike f fd) (hm : mg "_law_alike" = some (.ref f)) (b : Binds K fd ["found", "due"] []) (mi : mg "isinstance" = none) (mt : mg "tuple" = none) (mst : mg "str" = none) (min_ : mg "int" = none) (mbo : mg "bool" = none) (ml : mg "len" = none) (mr : mg "range" = none) : ∀ d : Nat, Fn P w K mg base (1 + d) "_law_alike" ["found", "due"] (rLAlike d)
  | d => by
    have ih : ∀ e, e < d → Fn P w K mg base (1 + e) "_law_alike" ["found", "due"] (rLAlike e) := fun e he => rec_lalike F hm b mi mt mst min_ mbo ml mr e
    have ek : 1 + d = d + 1 := by omega
    rw [ek]
    refine fnF F hm b sc__law_alike (fun ds r h => by cases h; rfl) fun X hX hT ds r h => ?_
    cases h with
    | @mk x h hd =>
      cases x with
      | tuple xs =>
        simp only [tupD, Bool.and_eq_true, decide_eq_true_eq] at h
        simp only [PyData.depth] at hd
        obtain ⟨hz, h⟩ := h
        have G' := ih (d - 1) (by omega)
        · refine' sm_end (s1_if (v := true) ?c1 (fun _ => ?t1) fun h => nomatch h)
          case' c1 => wtm_at "test"
          case' t1 =>
            refine' sm_cons (s1_if (v := false) ?c2 (fun h => nomatch h) fun _ => sm_nil) ?_
            case' c2 =>
              refine' et_eq ?c3 ?c4
              case' c3 => wtm_at "test"
              case c4 => simp
            refine' sm_cons ?s5 ?_
            case' s5 =>
              refine' forR0 hX (n := xs.length) 2 (fun i => [.dat (.tuple xs), .dat (.tuple xs), .un]) ?i5 ?r5 ?g5 ?l5 (fun _ => rfl) (fun i hi => ?b5)
              case' i5 =>
                refine' rangeF hX ?i6 ?i7 (lenF hX ?i8 ml (evs_dat ?i9 SeqD.tup)) ?i10 ?i11
                case' i6 => decide +kernel
                case' i7 => assumption
                case' i8 => decide +kernel
                case' i9 => wtm_at "ev"
                case i10 => omega
                case i11 => omega
              case' r5 => rw [Int.toNat_natCast]
              case' g5 => wtm_at "tgt"
              case' l5 => wtm_at "le"
              have px := tup_mem h _ (List.getElem_mem hi)
              have dx := dep_mem (k := d - 1) (by omega) _ (List.getElem_mem hi)
              have ex : IxD xs (i : Int) xs[i] := .lit (atI_nat (by rw [List.getElem?_eq_getElem hi]))
              generalize xs[i] = x at *
              refine' sm_le (sm_one (s1_if (v := false) ?c12 (fun h => nomatch h) fun _ => sm_nil)) ?l12
              case' l12 => wtm_at "le"
              case' c12 =>
                refine' et_eq (et_not (v := true) (et_ev (callF hX G' (by omega) ?d12 (ea_cons (ev_atD (evs_dat ?e12 SeqD.tup) ?f12 ex (fun _ _ => rfl)) (ea_cons (ev_atD (evs_dat ?g12 SeqD.tup) ?h12 ex (fun _ _ => rfl)) ea_nil)) (rLAlike.mk px dx) ?i12))) rfl
                case' d12 => decide +kernel
                case' e12 => wtm_at "ev"
                case' f12 => wtm_at "ev"
                case' g12 => wtm_at "ev"
                case' h12 => wtm_at "ev"
                case' i12 => decide +kernel
            refine' sm_end ?s13
            case' s13 => wtm_at "st"
      | str z =>
        refine' sm_cons (s1_if (v := false) ?sc1 (fun h => nomatch h) fun _ => sm_nil) ?_
        case' sc1 => wtm_at "test"
        refine' sm_end (s1_if (v := true) ?sc2 (fun _ => sm_end (s1_retE ?se2 ?sf2)) fun h => nomatch h)
        case' sc2 => wtm_at "test"
        case' se2 => wtm_at "ev"
        case sf2 => simp
      | int i =>
        refine' sm_cons (s1_if (v := false) ?ic1 (fun h => nomatch h) fun _ => sm_nil) ?_
        case' ic1 => wtm_at "test"
        refine' sm_cons (s1_if (v := false) ?ic2 (fun h => nomatch h) fun _ => sm_nil) ?_
        case' ic2 => wtm_at "test"
        refine' sm_end (s1_retE ?ie2 ?if2)
        case' ie2 => wtm_at "ev"
        case if2 => simp
      | list xs => simp [tupD] at h
      | none => simp [tupD] at h
      | bool _ => simp [tupD] at h
      | dict _ => simp [tupD] at h
inductive rLRaw (d : Nat) : List PyData → Res → Prop
  | mk {p : Int} {n : Nat} {its : List Item} (hp : Prm p) (hg : Goods p n its) (hl : levs its ≤ d) (hc : cnts its ≤ 1000) (hn : n ≤ 100) : rLRaw d [.int p, tIt its] (.ok (.own (.lst ((its.map (Item.raw p)).map Raw.enc))))
theorem ok_lalike {f : Addr} {fd : FuncData} (F : Fun K "_law_alike" "_law_alike" s__law_alike f fd) (hm : mg "_law_alike" = some (.ref f)) (b : Binds K fd ["found", "due"] []) (mi : mg "isinstance" = none) (mt : mg "tuple" = none) (mst : mg "str" = none) (min_ : mg "int" = none) (mbo : mg "bool" = none) (ml : mg "len" = none) (mr : mg "range" = none) : Fn P w K mg base 21 "_law_alike" ["found", "due"] (rLAlike 20) := rec_lalike F hm b mi mt mst min_ mbo ml mr 20
end
end W

namespace W
open PySem PySem.Spec PyProof.Rows L2 LR
/-! items that are refused -/
def BadR (n : Nat) (i : Raw) : Prop := 4 ≤ i.lev ∨ 31 ≤ i.cnt ∨ ¬ i.Good n
def BadRs (n : Nat) (its : List Raw) : Prop := 4 ≤ levRs its ∨ 31 ≤ cntRs its ∨ ¬ GoodRs n its
theorem levR_le {its : List Raw} {i : Raw} (h : i ∈ its) : i.lev ≤ levRs its := levRs_le.mp (Nat.le_refl _) i h
theorem cntRs_app (a b : List Raw) : cntRs (a ++ b) = cntRs a + cntRs b := by
  induction a with
  | nil => rw [cntRs_nil, Nat.zero_add]; rfl
  | cons x a ih => rw [List.cons_append, cntRs_cons, cntRs_cons, ih, Nat.add_assoc]
theorem levRs_app (a b : List Raw) : levRs (a ++ b) = max (levRs a) (levRs b) := by
  induction a with
  | nil => rw [levRs_nil, Nat.zero_max]; rfl
  | cons x a ih => rw [List.cons_append, levRs_cons, levRs_cons, ih, Nat.max_assoc]
theorem cntRs_one (i : Raw) : cntRs [i] = i.cnt := by rw [cntRs_cons, cntRs_nil, Nat.add_zero]
theorem levRs_one (i : Raw) : levRs [i] = i.lev := by rw [levRs_cons, levRs_nil, Nat.max_zero]
theorem cntRs_rep (k : Nat) (i : Raw) : cntRs (List.replicate k i) = k * i.cnt := by
  induction k with
  | zero => rw [List.replicate_zero, cntRs_nil, Nat.zero_mul]
  | succ k ih => rw [List.replicate_succ, cntRs_cons, ih, Nat.succ_mul, Nat.add_comm]
theorem levRs_rep (k : Nat) (i : Raw) : levRs (List.replicate k i) ≤ i.lev := levRs_le.mpr fun j hj => by rw [(List.mem_replicate.mp hj).2]; exact Nat.le_refl _
theorem badRs_mem {n : Nat} {its : List Raw} {i : Raw} (h : i ∈ its) (hb : BadR n i) : BadRs n its := by
  rcases hb with z | z | z
  · exact .inl (Nat.le_trans z (levR_le h))
  · exact .inr (.inl (Nat.le_trans z (cntR_le h)))
  · exact .inr (.inr fun g => z (goodRs_iff.mp g i h))
theorem badR_again {n : Nat} {m : Int} {k : Bool} {its : List Raw} (hb : BadRs n its) : BadR n (.again m k its) := by
  rcases hb with z | z | z
  · exact .inl (by rw [levR_again]; omega)
  · exact .inr (.inl (by rw [cntR_again]; omega))
  · exact .inr (.inr fun g => z (goodR_again.mp g).2.2)
theorem badRs_no {n : Nat} {its : List Raw} (hb : BadRs n its) : ¬ ProgOk n its := fun ⟨_, _, a, b, c⟩ => by
  rw [Int.toNat_natCast] at c
  rcases hb with z | z | z
  · omega
  · omega
  · exact z c
abbrev onesR (n : Nat) : List Int := List.replicate (n + 1) 1
def lawBent (c : Int) (n : Nat) : Raw :=
  if c % 6 = 0 then .again (c / 6 % 10 ^ (50 : Int).toNat % 3) false [.again 1 false [.again 2 false [.again (c / 6 % 10 ^ (50 : Int).toNat % 2) false []]]]
  else if c % 6 = 1 then .again 2 false (List.replicate 30 (.set (c / 6 % 10 ^ (50 : Int).toNat % n) (onesR n)))
  else if c % 6 = 2 then .again (if c / 6 % 2 = 0 then -1 - c / 6 % 10 ^ (50 : Int).toNat else 10 ^ (30 : Int).toNat + 1 + c / 6 % 10 ^ (50 : Int).toNat) false [.set (c / 6 % 10 ^ (50 : Int).toNat % n) (onesR n)]
  else if c % 6 = 3 then .set (if c / 6 % 2 = 0 then -1 - c / 6 % 10 ^ (50 : Int).toNat else n + c / 6 % 10 ^ (50 : Int).toNat) (onesR n)
  else if c % 6 = 4 then .set (c / 6 % 10 ^ (50 : Int).toNat % n) ((onesR n).drop 1)
  else .set (c / 6 % 10 ^ (50 : Int).toNat % n) (onesR n ++ [c / 6 % 10 ^ (50 : Int).toNat])
theorem lawBent_bad {c : Int} {n : Nat} : BadR n (lawBent c n) ∧ (lawBent c n).lev ≤ 4 ∧ (lawBent c n).cnt ≤ 31 := by
  have hfar : 0 ≤ c / 6 % 10 ^ (50 : Int).toNat := Int.emod_nonneg _ (by decide)
  have e30 : (10 : Int) ^ (30 : Int).toNat = 1000000000000000000000000000000 := by decide
  unfold lawBent
  generalize c / 6 % 10 ^ (50 : Int).toNat = far at *
  by_cases h0 : c % 6 = 0
  · rw [if_pos h0]
    simp only [BadR, levR_again, cntR_again, levRs_one, cntRs_one, levRs_nil, cntRs_nil]
    omega
  by_cases h1 : c % 6 = 1
  · rw [if_neg h0, if_pos h1]
    have := levRs_rep 30 (.set (far % n) (onesR n))
    rw [levR_set] at this
    simp only [BadR, levR_again, cntR_again, cntRs_rep, cntR_set]
    omega
  by_cases h2 : c % 6 = 2
  · rw [if_neg h0, if_neg h1, if_pos h2]
    refine ⟨.inr (.inr fun g => ?_), by rw [levR_again, levRs_one, levR_set]; omega, by rw [cntR_again, cntRs_one, cntR_set]; omega⟩
    obtain ⟨a, b, _⟩ := goodR_again.mp g
    rw [e30] at a b
    by_cases z : c / 6 % 2 = 0
    · rw [if_pos z] at a b; omega
    · rw [if_neg z] at a b; omega
  by_cases h3 : c % 6 = 3
  · rw [if_neg h0, if_neg h1, if_neg h2, if_pos h3]
    refine ⟨.inr (.inr fun g => ?_), by rw [levR_set]; omega, by rw [cntR_set]; omega⟩
    obtain ⟨a, b, _⟩ := goodR_set.mp g
    by_cases z : c / 6 % 2 = 0
    · rw [if_pos z] at a b; omega
    · rw [if_neg z] at a b; omega
  by_cases h4 : c % 6 = 4
  · rw [if_neg h0, if_neg h1, if_neg h2, if_neg h3, if_pos h4]
    refine ⟨.inr (.inr fun g => ?_), by rw [levR_set]; omega, by rw [cntR_set]; omega⟩
    have := (goodR_set.mp g).2.2
    simp at this
  · rw [if_neg h0, if_neg h1, if_neg h2, if_neg h3, if_neg h4]
    refine ⟨.inr (.inr fun g => ?_), by rw [levR_set]; omega, by rw [cntR_set]; omega⟩
    have := (goodR_set.mp g).2.2
    simp at this
def wrapR (c : Int) (b : Raw) (f0 : List Int) : Raw := if c % 3 = 0 then .again (c / 3 % 5) false ([Raw.set 0 f0, b, b].drop (c / 15 % 3).toNat) else b
theorem wrapR_bad {c : Int} {n : Nat} {b : Raw} {f0 : List Int} (hb : BadR n b) (hl : b.lev ≤ 4) (hc : b.cnt ≤ 31) : BadR n (wrapR c b f0) ∧ (wrapR c b f0).lev ≤ 5 ∧ (wrapR c b f0).cnt ≤ 100 := by
  unfold wrapR
  by_cases h : c % 3 = 0
  · rw [if_pos h]
    obtain ⟨k, hk, hk2⟩ : ∃ k : Nat, (c / 15 % 3).toNat = k ∧ k < 3 := ⟨_, rfl, by omega⟩
    rw [hk]
    have mem : b ∈ [Raw.set 0 f0, b, b].drop k := by
      match k, hk2 with
      | 0, _ => simp
      | 1, _ => simp
      | 2, _ => simp
    have lv : levRs ([Raw.set 0 f0, b, b].drop k) ≤ 4 := levRs_le.mpr fun i hi => by
      have := List.mem_of_mem_drop hi
      simp only [List.mem_cons, List.not_mem_nil, or_false] at this
      rcases this with rfl | rfl | rfl
      · rw [levR_set]; omega
      · exact hl
      · exact hl
    have ct : cntRs ([Raw.set 0 f0, b, b].drop k) ≤ 63 := by
      match k, hk2 with
      | 0, _ => rw [List.drop_zero, cntRs_cons, cntRs_cons, cntRs_one, cntR_set]; omega
      | 1, _ => show cntRs [b, b] ≤ 63; rw [cntRs_cons, cntRs_one]; omega
      | 2, _ => show cntRs [b] ≤ 63; rw [cntRs_one]; omega
    exact ⟨badR_again (badRs_mem mem hb), by rw [levR_again]; omega, by rw [cntR_again]; omega⟩
  · rw [if_neg h]
    exact ⟨hb, by omega, by omega⟩
def lawWith (its : List Raw) (at' : Nat) (c : Int) (b : Raw) (f0 : List Int) : List Raw := its.take at' ++ [wrapR c b f0] ++ its.drop at'
theorem lawWith_bad {its : List Raw} {at' : Nat} {c : Int} {n : Nat} {b : Raw} {f0 : List Int} (hb : BadR n b) (hl : b.lev ≤ 4) (hc : b.cnt ≤ 31) (il : levRs its ≤ 3) (ic : cntRs its ≤ 30) : BadRs n (lawWith its at' c b f0) ∧ levRs (lawWith its at' c b f0) ≤ 5 ∧ cntRs (lawWith its at' c b f0) ≤ 200 := by
  obtain ⟨w1, w2, w3⟩ := wrapR_bad (c := c) (f0 := f0) hb hl hc
  unfold lawWith
  have sp : cntRs its = cntRs (its.take at') + cntRs (its.drop at') := by rw [← cntRs_app, List.take_append_drop]
  have sl : levRs its = max (levRs (its.take at')) (levRs (its.drop at')) := by rw [← levRs_app, List.take_append_drop]
  refine ⟨badRs_mem (by simp) w1, ?_, ?_⟩
  · rw [levRs_app, levRs_app, levRs_one]; omega
  · rw [cntRs_app, cntRs_app, cntRs_one]; omega
def oddSizes (m : Int) : List Int := [4, 9, 15, 1, 2, 0, -7, 10007, 9999, 2 * (m % 10 ^ (50 : Int).toNat)]
theorem oddSizes_no {m : Int} {i : Int} (h : i ∈ oddSizes m) : ¬ Prm i := fun hp => by
  simp only [oddSizes, List.mem_cons, List.not_mem_nil, or_false] at h
  have lo := hp.lo
  have hi := hp.hi
  rcases h with rfl | rfl | rfl | rfl | rfl | rfl | rfl | rfl | rfl | h
  · exact hp.no 2 (by decide) (by decide) (by decide)
  · exact hp.no 3 (by decide) (by decide) (by decide)
  · exact hp.no 3 (by decide) (by decide) (by decide)
  · omega
  · omega
  · omega
  · omega
  · omega
  · exact hp.no 3 (by decide) (by decide) (by decide)
  · generalize m % 10 ^ (50 : Int).toNat = q at h
    exact hp.no 2 (by decide) (by omega) (by omega)
end W

set_option maxHeartbeats 4000000
namespace W
open PySem PySem.Spec PyProof.Rows L2 LR
theorem star_tup {es es' : List Expr} {k p env} : starEach (.Tuple es' k p :: es) env = (false, eval (.Tuple es' k p) env) :: starEach es env := rfl
theorem star_const {es : List Expr} {c k p env} : starEach (.Constant c k p :: es) env = (false, eval (.Constant c k p) env) :: starEach es env := rfl
theorem star_bin {es : List Expr} {a o b p env} : starEach (.BinOp a o b p :: es) env = (false, eval (.BinOp a o b p) env) :: starEach es env := rfl
theorem encB : Enc PyData.bool 0 where
  lay := fun x => by simp [PyData.canLay0]
  dep := fun x => by simp [PyData.depth]
  eqv := fun x y => by cases x <;> cases y <;> simp [PyData.eqv]
theorem rep_flat {α : Type} (k : Nat) (a : α) : (List.replicate k [a]).flatten = List.replicate k a := by
  induction k with
  | zero => rfl
  | succ k ih => rw [List.replicate_succ, List.flatten_cons, ih, List.replicate_succ]; rfl
section
variable {P : Program} {w : World} {K : PySem.W.Frag} {mg : Str → Option Value} {base : Heap}
inductive rBent : List PyData → Res → Prop
  | mk {c : Int} {n : Nat} (h : 1 ≤ n) (h3 : n ≤ 3) : rBent [.int c, .int n] (.ok (.dat (lawBent c n).enc))
local macro_rules | `(tactic| wtm_at "nm") => `(tactic| first
  | ((with_reducible show Ev _ _ (.Name "cell" _) _); exact nmF (by assumption) 0 (by rfl) rfl (by decide +kernel) (by decide +kernel) (by decide +kernel))
  | ((with_reducible show Ev _ _ (.Name "many" _) _); exact nmF (by assumption) 1 (by rfl) rfl (by decide +kernel) (by decide +kernel) (by decide +kernel))
  | ((with_reducible show Ev _ _ (.Name "far" _) _); exact nmF (by assumption) 2 (by rfl) rfl (by decide +kernel) (by decide +kernel) (by decide +kernel))
  | ((with_reducible show Ev _ _ (.Name "form" _) _); exact nmF (by assumption) 3 (by rfl) rfl (by decide +kernel) (by decide +kernel) (by decide +kernel))
  | ((with_reducible show Ev _ _ (.Name "x" _) _); exact nmF (by assumption) 4 (by rfl) rfl (by decide +kernel) (by decide +kernel) (by decide +kernel)))
local macro_rules | `(tactic| wtm_at "own") => `(tactic| first
  | ((with_reducible show EvS _ _ (.Name "cell" _) _ _); exact ownF (by assumption) 0 (by rfl) rfl (by decide +kernel) (by decide +kernel) (by decide +kernel))
  | ((with_reducible show EvS _ _ (.Name "many" _) _ _); exact ownF (by assumption) 1 (by rfl) rfl (by decide +kernel) (by decide +kernel) (by decide +kernel))
  | ((with_reducible show EvS _ _ (.Name "far" _) _ _); exact ownF (by assumption) 2 (by rfl) rfl (by decide +kernel) (by decide +kernel) (by decide +kernel))
  | ((with_reducible show EvS _ _ (.Name "form" _) _ _); exact ownF (by assumption) 3 (by rfl) rfl (by decide +kernel) (by decide +kernel) (by decide +kernel))
  | ((with_reducible show EvS _ _ (.Name "x" _) _ _); exact ownF (by assumption) 4 (by rfl) rfl (by decide +kernel) (by decide +kernel) (by decide +kernel)))
local macro_rules | `(tactic| wtm_at "ownl") => `(tactic| first
  | ((with_reducible show EvL _ _ (.Name "cell" _) _); exact ownlF (by assumption) 0 (by rfl) rfl (by decide +kernel) (by decide +kernel) (by decide +kernel))
  | ((with_reducible show EvL _ _ (.Name "many" _) _); exact ownlF (by assumption) 1 (by rfl) rfl (by decide +kernel) (by decide +kernel) (by decide +kernel))
  | ((with_reducible show EvL _ _ (.Name "far" _) _); exact ownlF (by assumption) 2 (by rfl) rfl (by decide +kernel) (by decide +kernel) (by decide +kernel))
  | ((with_reducible show EvL _ _ (.Name "form" _) _); exact ownlF (by assumption) 3 (by rfl) rfl (by decide +kernel) (by decide +kernel) (by decide +kernel))
  | ((with_reducible show EvL _ _ (.Name "x" _) _); exact ownlF (by assumption) 4 (by rfl) rfl (by decide +kernel) (by decide +kernel) (by decide +kernel)))
local macro_rules | `(tactic| wtm_at "set") => `(tactic| first
  | ((with_reducible show S1 _ _ (.Assign [.Name "cell" _] _ _) _); refine' setF ?st1 ?st2 0 ?st3 ?st4 ?ste ?st5; (case' st1 => assumption); (case' st2 => assumption); (case' st3 => rfl); (case' st4 => decide +kernel); (case' ste => wtm_at "ev"); (case' st5 => rfl))
  | ((with_reducible show S1 _ _ (.Assign [.Name "many" _] _ _) _); refine' setF ?st1 ?st2 1 ?st3 ?st4 ?ste ?st5; (case' st1 => assumption); (case' st2 => assumption); (case' st3 => rfl); (case' st4 => decide +kernel); (case' ste => wtm_at "ev"); (case' st5 => rfl))
  | ((with_reducible show S1 _ _ (.Assign [.Name "far" _] _ _) _); refine' setF ?st1 ?st2 2 ?st3 ?st4 ?ste ?st5; (case' st1 => assumption); (case' st2 => assumption); (case' st3 => rfl); (case' st4 => decide +kernel); (case' ste => wtm_at "ev"); (case' st5 => rfl))
  | ((with_reducible show S1 _ _ (.Assign [.Name "form" _] _ _) _); refine' setF ?st1 ?st2 3 ?st3 ?st4 ?ste ?st5; (case' st1 => assumption); (case' st2 => assumption); (case' st3 => rfl); (case' st4 => decide +kernel); (case' ste => wtm_at "ev"); (case' st5 => rfl))
  | ((with_reducible show S1 _ _ (.Assign [.Name "x" _] _ _) _); refine' setF ?st1 ?st2 4 ?st3 ?st4 ?ste ?st5; (case' st1 => assumption); (case' st2 => assumption); (case' st3 => rfl); (case' st4 => decide +kernel); (case' ste => wtm_at "ev"); (case' st5 => rfl)))
local macro_rules | `(tactic| wtm_at "app") => `(tactic| first
  | ((with_reducible show S1 _ _ (.Expr (.Call (.Attribute (.Name "cell" _) _ _) _ _ _) _) _); refine' appF ?ap1 0 ?ap2 ?ap3 ?ap4 ?ape ?aps ?ap5 ?ap6; (case' ap1 => assumption); (case' ap2 => rfl); (case' ap3 => rfl); (case' ap4 => decide +kernel); (case' ape => wtm_at "ev"); (case' aps => try (wtm_at "sz")); (case' ap5 => decide +kernel); (case' ap6 => decide +kernel))
  | ((with_reducible show S1 _ _ (.Expr (.Call (.Attribute (.Name "many" _) _ _) _ _ _) _) _); refine' appF ?ap1 1 ?ap2 ?ap3 ?ap4 ?ape ?aps ?ap5 ?ap6; (case' ap1 => assumption); (case' ap2 => rfl); (case' ap3 => rfl); (case' ap4 => decide +kernel); (case' ape => wtm_at "ev"); (case' aps => try (wtm_at "sz")); (case' ap5 => decide +kernel); (case' ap6 => decide +kernel))
  | ((with_reducible show S1 _ _ (.Expr (.Call (.Attribute (.Name "far" _) _ _) _ _ _) _) _); refine' appF ?ap1 2 ?ap2 ?ap3 ?ap4 ?ape ?aps ?ap5 ?ap6; (case' ap1 => assumption); (case' ap2 => rfl); (case' ap3 => rfl); (case' ap4 => decide +kernel); (case' ape => wtm_at "ev"); (case' aps => try (wtm_at "sz")); (case' ap5 => decide +kernel); (case' ap6 => decide +kernel))
  | ((with_reducible show S1 _ _ (.Expr (.Call (.Attribute (.Name "form" _) _ _) _ _ _) _) _); refine' appF ?ap1 3 ?ap2 ?ap3 ?ap4 ?ape ?aps ?ap5 ?ap6; (case' ap1 => assumption); (case' ap2 => rfl); (case' ap3 => rfl); (case' ap4 => decide +kernel); (case' ape => wtm_at "ev"); (case' aps => try (wtm_at "sz")); (case' ap5 => decide +kernel); (case' ap6 => decide +kernel))
  | ((with_reducible show S1 _ _ (.Expr (.Call (.Attribute (.Name "x" _) _ _) _ _ _) _) _); refine' appF ?ap1 4 ?ap2 ?ap3 ?ap4 ?ape ?aps ?ap5 ?ap6; (case' ap1 => assumption); (case' ap2 => rfl); (case' ap3 => rfl); (case' ap4 => decide +kernel); (case' ape => wtm_at "ev"); (case' aps => try (wtm_at "sz")); (case' ap5 => decide +kernel); (case' ap6 => decide +kernel)))
local macro_rules | `(tactic| wtm_at "put") => `(tactic| first
  | ((with_reducible show S1 _ _ (.Assign [.Subscript (.Name "cell" _) _ _] _ _) _); refine' putF ?pu1 0 ?pu2 ?pu3 ?pu4 ?pue ?pui ?pu5 ?pu6 ?pu7 ?pu8; (case' pu1 => assumption); (case' pu2 => rfl); (case' pu3 => rfl); (case' pu4 => decide +kernel); (case' pue => wtm_at "ev"); (case' pui => wtm_at "ev"); (case' pu5 => try (wtm_at "sd")); (case' pu6 => try (wtm_at "sd")); (case' pu7 => decide +kernel); (case' pu8 => decide +kernel))
  | ((with_reducible show S1 _ _ (.Assign [.Subscript (.Name "many" _) _ _] _ _) _); refine' putF ?pu1 1 ?pu2 ?pu3 ?pu4 ?pue ?pui ?pu5 ?pu6 ?pu7 ?pu8; (case' pu1 => assumption); (case' pu2 => rfl); (case' pu3 => rfl); (case' pu4 => decide +kernel); (case' pue => wtm_at "ev"); (case' pui => wtm_at "ev"); (case' pu5 => try (wtm_at "sd")); (case' pu6 => try (wtm_at "sd")); (case' pu7 => decide +kernel); (case' pu8 => decide +kernel))
  | ((with_reducible show S1 _ _ (.Assign [.Subscript (.Name "far" _) _ _] _ _) _); refine' putF ?pu1 2 ?pu2 ?pu3 ?pu4 ?pue ?pui ?pu5 ?pu6 ?pu7 ?pu8; (case' pu1 => assumption); (case' pu2 => rfl); (case' pu3 => rfl); (case' pu4 => decide +kernel); (case' pue => wtm_at "ev"); (case' pui => wtm_at "ev"); (case' pu5 => try (wtm_at "sd")); (case' pu6 => try (wtm_at "sd")); (case' pu7 => decide +kernel); (case' pu8 => decide +kernel))
  | ((with_reducible show S1 _ _ (.Assign [.Subscript (.Name "form" _) _ _] _ _) _); refine' putF ?pu1 3 ?pu2 ?pu3 ?pu4 ?pue ?pui ?pu5 ?pu6 ?pu7 ?pu8; (case' pu1 => assumption); (case' pu2 => rfl); (case' pu3 => rfl); (case' pu4 => decide +kernel); (case' pue => wtm_at "ev"); (case' pui => wtm_at "ev"); (case' pu5 => try (wtm_at "sd")); (case' pu6 => try (wtm_at "sd")); (case' pu7 => decide +kernel); (case' pu8 => decide +kernel))
  | ((with_reducible show S1 _ _ (.Assign [.Subscript (.Name "x" _) _ _] _ _) _); refine' putF ?pu1 4 ?pu2 ?pu3 ?pu4 ?pue ?pui ?pu5 ?pu6 ?pu7 ?pu8; (case' pu1 => assumption); (case' pu2 => rfl); (case' pu3 => rfl); (case' pu4 => decide +kernel); (case' pue => wtm_at "ev"); (case' pui => wtm_at "ev"); (case' pu5 => try (wtm_at "sd")); (case' pu6 => try (wtm_at "sd")); (case' pu7 => decide +kernel); (case' pu8 => decide +kernel)))
local macro_rules | `(tactic| wtm_at "reto") => `(tactic| first
  | ((with_reducible show S1 _ _ (.Return (some (.Name "cell" _)) _) _); exact retOF (by assumption) 0 (by rfl) rfl (by decide +kernel) (by decide +kernel) (by decide +kernel))
  | ((with_reducible show S1 _ _ (.Return (some (.Name "many" _)) _) _); exact retOF (by assumption) 1 (by rfl) rfl (by decide +kernel) (by decide +kernel) (by decide +kernel))
  | ((with_reducible show S1 _ _ (.Return (some (.Name "far" _)) _) _); exact retOF (by assumption) 2 (by rfl) rfl (by decide +kernel) (by decide +kernel) (by decide +kernel))
  | ((with_reducible show S1 _ _ (.Return (some (.Name "form" _)) _) _); exact retOF (by assumption) 3 (by rfl) rfl (by decide +kernel) (by decide +kernel) (by decide +kernel))
  | ((with_reducible show S1 _ _ (.Return (some (.Name "x" _)) _) _); exact retOF (by assumption) 4 (by rfl) rfl (by decide +kernel) (by decide +kernel) (by decide +kernel)))
local macro_rules | `(tactic| wtm_at "tgt") => `(tactic| first
  | ((with_reducible show PG _ (.Name "cell" _) _); exact tgF (by assumption) (by assumption) 0 (by rfl) (by decide +kernel))
  | ((with_reducible show PG _ (.Name "many" _) _); exact tgF (by assumption) (by assumption) 1 (by rfl) (by decide +kernel))
  | ((with_reducible show PG _ (.Name "far" _) _); exact tgF (by assumption) (by assumption) 2 (by rfl) (by decide +kernel))
  | ((with_reducible show PG _ (.Name "form" _) _); exact tgF (by assumption) (by assumption) 3 (by rfl) (by decide +kernel))
  | ((with_reducible show PG _ (.Name "x" _) _); exact tgF (by assumption) (by assumption) 4 (by rfl) (by decide +kernel)))
theorem ok_bent {f : Addr} {fd : FuncData} (F : Fun K "_law_bent" "_law_bent" s__law_bent f fd) (hm : mg "_law_bent" = some (.ref f)) (b : Binds K fd ["cell", "many"] []) : Fn P w K mg base 1 "_law_bent" ["cell", "many"] rBent := by
  refine fnF F hm b sc__law_bent (fun ds r h => by cases h; rfl) fun X hX hT ds r h => ?_
  cases h with
  | @mk c n n1 n3 =>
    have cp : CPow 10 50 := ⟨by decide, by decide, by decide⟩
    have cp3 : CPow 10 30 := ⟨by decide, by decide, by decide⟩
    have t50 : (0 : Int) < 10 ^ (50 : Int).toNat := by decide
    have far0 : 0 ≤ c / 6 % 10 ^ (50 : Int).toNat := Int.emod_nonneg _ (by decide)
    have n0 : (0 : Int) < n := by omega
    refine' sm_cons (A1 := [.dat (.int c), .dat (.int n), .dat (.int (c / 6 % 10 ^ (50 : Int).toNat)), .un, .un]) ?s1 ?_
    case' s1 => wtm_at "st"
    refine' sm_cons (A1 := [.dat (.int c), .dat (.int n), .dat (.int (c / 6 % 10 ^ (50 : Int).toNat)), .dat (tI (onesR n)), .un]) ?s2 ?_
    case' s2 =>
      refine' setF hX hT 3 (by rfl) ?q2 (ev_eq ?q3 ?q4) (by rfl)
      case' q2 => decide +kernel
      case' q3 => wtm_at "ev"
      case q4 => rw [show ((n : Int) + 1).toNat = n + 1 by omega]
    refine' sm_cons (A1 := [.dat (.int c), .dat (.int n), .dat (.int (c / 6 % 10 ^ (50 : Int).toNat)), .dat (tI (onesR n)), .dat (.int (c / 6 % 10 ^ (50 : Int).toNat % n))]) ?s5 ?_
    case' s5 => wtm_at "st"
    unfold lawBent
    generalize c / 6 % 10 ^ (50 : Int).toNat = far at *
    have lo : (onesR n).length = n + 1 := List.length_replicate
    by_cases h0 : c % 6 = 0
    · rw [if_pos h0]
      generalize hd : Raw.enc _ = d
      refine' sm_end (s1_if (v := true) (et_eq ?c1 (decide_eq_true h0)) (fun _ => ?w2) fun z => nomatch z)
      case' c1 => wtm_at "test"
      case' w2 =>
        refine' sm_end (s1_retE (ev_eq ?c2 ?c3) rfl)
        case' c2 =>
          refine' ev_tup ?t1 ?t2
          case' t1 =>
            refine' ea_cons ?w21 ?t3
            case' w21 => exact ev_str
            case' t3 =>
              refine' ea_cons ?t4 ?t5
              case' t4 => wtm_at "ev"
              case' t5 =>
                refine' ea_cons ?t6 ?t7
                case' t7 => exact ea_nil
                case' t6 =>
                  refine' ev_tup ?u1 ?u2
                  case' u1 =>
                    refine' ea_cons ?u3 ?u4
                    case' u4 => exact ea_nil
                    case' u3 =>
                      refine' ev_tup ?u5 ?u6
                      case' u5 =>
                        refine' ea_cons ?w22 ?u7
                        case' w22 => exact ev_str
                        case' u7 =>
                          refine' ea_cons ?w23 ?u8
                          case' w23 => exact ev_int
                          case' u8 =>
                            refine' ea_cons ?v1 ?v2
                            case' v2 => exact ea_nil
                            case' v1 =>
                              refine' ev_tup ?v3 ?v4
                              case' v3 =>
                                refine' ea_cons ?v5 ?v6
                                case' v6 => exact ea_nil
                                case' v5 =>
                                  refine' ev_tup ?v7 ?v8
                                  case' v7 =>
                                    refine' ea_cons ?w24 ?x1
                                    case' w24 => exact ev_str
                                    case' x1 =>
                                      refine' ea_cons ?w25 ?x2
                                      case' w25 => exact ev_int
                                      case' x2 =>
                                        refine' ea_cons ?x3 ?x4
                                        case' x4 => exact ea_nil
                                        case' x3 =>
                                          refine' ev_tup ?x5 ?x6
                                          case' x5 =>
                                            refine' ea_cons ?x7 ?x8
                                            case' x8 => exact ea_nil
                                            case' x7 =>
                                              refine' ev_tup ?y1 ?y2
                                              case' y1 =>
                                                refine' ea_cons ?w26 ?y3
                                                case' w26 => exact ev_str
                                                case' y3 =>
                                                  refine' ea_cons ?y4 ?y5
                                                  case' y4 => wtm_at "ev"
                                                  case' y5 =>
                                                    refine' ea_cons ?y6 ?y7
                                                    case' y7 => exact ea_nil
                                                    case' y6 =>
                                                      refine' ev_tup ?y8 ?y9
                                                      case' y8 => exact ea_nil
                                                      case y9 => rw [sizeLine_eq]; simp
                                              case y2 => rw [sizeLine_eq]; simp
                                          case x6 => rw [sizeLine_eq]; simp
                                  case v8 => rw [sizeLine_eq]; simp
                              case v4 => rw [sizeLine_eq]; simp
                      case u6 => rw [sizeLine_eq]; simp
                  case u2 => rw [sizeLine_eq]; simp
          case t2 => rw [sizeLine_eq]; simp
        case c3 => simp only [← hd, encR_again, seqR, seqK, List.map_cons, List.map_nil, Bool.false_eq_true, if_false]
    refine' sm_cons (s1_if (v := false) (et_eq ?d1 (decide_eq_false h0)) (fun z => nomatch z) fun _ => sm_nil) ?_
    case' d1 => wtm_at "test"
    by_cases h1 : c % 6 = 1
    · rw [if_neg h0, if_pos h1]
      generalize hd : Raw.enc _ = d
      refine' sm_end (s1_if (v := true) (et_eq ?c4 (decide_eq_true h1)) (fun _ => ?b1) fun z => nomatch z)
      case' c4 => wtm_at "test"
      case' b1 =>
        refine' sm_end (s1_retE (ev_eq (ev_tup (ea_cons ?w51 (ea_cons ?w52 (ea_cons (ev_repT (ds := [.tuple [.str "set", .int (far % n), tI (onesR n)]]) ?c5 ev_int (by simp) (by decide) (by decide) (by simp)) ea_nil))) ?c6) ?c7) rfl)
        case' w51 => exact ev_str
        case' w52 => exact ev_int
        case' c5 => wtm_at "ev"
        case c6 => rw [sizeLine_eq]; simp
        case c7 =>
          rw [← hd, encR_again, rep_flat]
          simp only [seqR, seqK, Bool.false_eq_true, if_false, List.map_replicate, encR_set]
          rfl
    refine' sm_cons (s1_if (v := false) (et_eq ?d2 (decide_eq_false h1)) (fun z => nomatch z) fun _ => sm_nil) ?_
    case' d2 => wtm_at "test"
    by_cases h2 : c % 6 = 2
    · rw [if_neg h0, if_neg h1, if_pos h2]
      generalize hd : Raw.enc _ = d
      refine' sm_end (s1_if (v := true) (et_eq ?c8 (decide_eq_true h2)) (fun _ => ?b2) fun z => nomatch z)
      case' c8 => wtm_at "test"
      case' b2 =>
        refine' sm_end (s1_retE (ev_eq (ev_tup (ea_cons ?w53 (ea_cons (ev_atD (k := true) (ds := [.int (-1 - far), .int (10 ^ (30 : Int).toNat + 1 + far)]) (i := c / 6 % 2) (d := .int (if c / 6 % 2 = 0 then -1 - far else 10 ^ (30 : Int).toNat + 1 + far)) (evs_new (ev_lst (ea_cons ?c9 (ea_cons ?ca ea_nil)) ?cb)) ?cc (.lit ?cd) (fun _ _ => rfl)) (ea_cons ?ce ea_nil))) ?cf) ?cg) rfl)
        case' w53 => exact ev_str
        case' c9 => wtm_at "ev"
        case' ca => wtm_at "ev"
        case cb => rw [sizeLine_eq]; simp
        case' cc => wtm_at "ev"
        case cd => rcases (show c / 6 % 2 = 0 ∨ c / 6 % 2 = 1 by omega) with z | z <;> rw [z] <;> rfl
        case' ce =>
          refine' ev_tup ?f1 ?f2
          case' f1 =>
            refine' ea_cons ?f3 ?f4
            case' f4 => exact ea_nil
            case' f3 =>
              refine' ev_tup ?f5 ?f6
              case' f5 =>
                refine' ea_cons ?f7 ?f8
                case' f7 => exact ev_str
                case' f8 => wtm_at "args"
              case f6 => rw [sizeLine_eq]; simp
          case f2 => rw [sizeLine_eq]; simp
        case cf => rw [sizeLine_eq]; simp
        case cg => simp only [← hd, encR_again, encR_set, seqR, seqK, List.map_cons, List.map_nil, Bool.false_eq_true, if_false]
    refine' sm_cons (s1_if (v := false) (et_eq ?d3 (decide_eq_false h2)) (fun z => nomatch z) fun _ => sm_nil) ?_
    case' d3 => wtm_at "test"
    by_cases h3 : c % 6 = 3
    · rw [if_neg h0, if_neg h1, if_neg h2, if_pos h3]
      generalize hd : Raw.enc _ = d
      refine' sm_end (s1_if (v := true) (et_eq ?ch (decide_eq_true h3)) (fun _ => ?b3) fun z => nomatch z)
      case' ch => wtm_at "test"
      case' b3 =>
        refine' sm_end (s1_retE (ev_eq (ev_tup (ea_cons ?w54 (ea_cons (ev_atD (k := true) (ds := [.int (-1 - far), .int (n + far)]) (i := c / 6 % 2) (d := .int (if c / 6 % 2 = 0 then -1 - far else n + far)) (evs_new (ev_lst (ea_cons ?ci (ea_cons ?cj ea_nil)) ?ck)) ?cl (.lit ?cm) (fun _ _ => rfl)) (ea_cons ?cn ea_nil))) ?co) ?cq) rfl)
        case' w54 => exact ev_str
        case' ci => wtm_at "ev"
        case' cj => wtm_at "ev"
        case ck => rw [sizeLine_eq]; simp
        case' cl => wtm_at "ev"
        case cm => rcases (show c / 6 % 2 = 0 ∨ c / 6 % 2 = 1 by omega) with z | z <;> rw [z] <;> rfl
        case' cn => wtm_at "ev"
        case co => rw [sizeLine_eq]; simp
        case cq => rw [← hd, encR_set]
    refine' sm_cons (s1_if (v := false) (et_eq ?d4 (decide_eq_false h3)) (fun z => nomatch z) fun _ => sm_nil) ?_
    case' d4 => wtm_at "test"
    by_cases h4 : c % 6 = 4
    · rw [if_neg h0, if_neg h1, if_neg h2, if_neg h3, if_pos h4]
      generalize hd : Raw.enc _ = d
      refine' sm_end (s1_if (v := true) (et_eq ?cr (decide_eq_true h4)) (fun _ => ?b4) fun z => nomatch z)
      case' cr => wtm_at "test"
      case' b4 =>
        refine' sm_end (s1_retE (ev_eq ?cs ?ct) rfl)
        case' cs => wtm_at "ev"
        case ct => rw [← hd, encR_set]; rfl
    refine' sm_cons (s1_if (v := false) (et_eq ?d5 (decide_eq_false h4)) (fun z => nomatch z) fun _ => sm_nil) ?_
    case' d5 => wtm_at "test"
    rw [if_neg h0, if_neg h1, if_neg h2, if_neg h3, if_neg h4]
    generalize hd : Raw.enc _ = d
    refine' sm_end (s1_retE (ev_eq (ev_tup (ea_cons ?w55 (ea_cons ?cu (ea_cons (ev_bin ?cv ?cw (BinD.catI1 ?cx)) ea_nil))) ?cy) ?cz) rfl)
    case' w55 => exact ev_str
    case' cu => wtm_at "ev"
    case' cv => wtm_at "ev"
    case' cw => wtm_at "ev"
    case cx => rw [lo, sizeLine_eq]; omega
    case cy => rw [sizeLine_eq]; simp
    case cz => rw [← hd, encR_set]
inductive rWith : List PyData → Res → Prop
  | mk {r : List Raw} {f0 : List Int} {at' : Nat} {c : Int} {b : Raw} (h : r.length ≤ 100) : rWith [seqR false (.set 0 f0 :: r), .int (at' : Nat), .int c, b.enc] (.ok (.dat (seqR false (lawWith (.set 0 f0 :: r) at' c b f0))))
local macro_rules | `(tactic| wtm_at "nm") => `(tactic| first
  | ((with_reducible show Ev _ _ (.Name "items" _) _); exact nmF (by assumption) 0 (by rfl) rfl (by decide +kernel) (by decide +kernel) (by decide +kernel))
  | ((with_reducible show Ev _ _ (.Name "place" _) _); exact nmF (by assumption) 1 (by rfl) rfl (by decide +kernel) (by decide +kernel) (by decide +kernel))
  | ((with_reducible show Ev _ _ (.Name "cell" _) _); exact nmF (by assumption) 2 (by rfl) rfl (by decide +kernel) (by decide +kernel) (by decide +kernel))
  | ((with_reducible show Ev _ _ (.Name "bent" _) _); exact nmF (by assumption) 3 (by rfl) rfl (by decide +kernel) (by decide +kernel) (by decide +kernel)))
local macro_rules | `(tactic| wtm_at "own") => `(tactic| first
  | ((with_reducible show EvS _ _ (.Name "items" _) _ _); exact ownF (by assumption) 0 (by rfl) rfl (by decide +kernel) (by decide +kernel) (by decide +kernel))
  | ((with_reducible show EvS _ _ (.Name "place" _) _ _); exact ownF (by assumption) 1 (by rfl) rfl (by decide +kernel) (by decide +kernel) (by decide +kernel))
  | ((with_reducible show EvS _ _ (.Name "cell" _) _ _); exact ownF (by assumption) 2 (by rfl) rfl (by decide +kernel) (by decide +kernel) (by decide +kernel))
  | ((with_reducible show EvS _ _ (.Name "bent" _) _ _); exact ownF (by assumption) 3 (by rfl) rfl (by decide +kernel) (by decide +kernel) (by decide +kernel)))
local macro_rules | `(tactic| wtm_at "ownl") => `(tactic| first
  | ((with_reducible show EvL _ _ (.Name "items" _) _); exact ownlF (by assumption) 0 (by rfl) rfl (by decide +kernel) (by decide +kernel) (by decide +kernel))
  | ((with_reducible show EvL _ _ (.Name "place" _) _); exact ownlF (by assumption) 1 (by rfl) rfl (by decide +kernel) (by decide +kernel) (by decide +kernel))
  | ((with_reducible show EvL _ _ (.Name "cell" _) _); exact ownlF (by assumption) 2 (by rfl) rfl (by decide +kernel) (by decide +kernel) (by decide +kernel))
  | ((with_reducible show EvL _ _ (.Name "bent" _) _); exact ownlF (by assumption) 3 (by rfl) rfl (by decide +kernel) (by decide +kernel) (by decide +kernel)))
local macro_rules | `(tactic| wtm_at "set") => `(tactic| first
  | ((with_reducible show S1 _ _ (.Assign [.Name "items" _] _ _) _); refine' setF ?st1 ?st2 0 ?st3 ?st4 ?ste ?st5; (case' st1 => assumption); (case' st2 => assumption); (case' st3 => rfl); (case' st4 => decide +kernel); (case' ste => wtm_at "ev"); (case' st5 => rfl))
  | ((with_reducible show S1 _ _ (.Assign [.Name "place" _] _ _) _); refine' setF ?st1 ?st2 1 ?st3 ?st4 ?ste ?st5; (case' st1 => assumption); (case' st2 => assumption); (case' st3 => rfl); (case' st4 => decide +kernel); (case' ste => wtm_at "ev"); (case' st5 => rfl))
  | ((with_reducible show S1 _ _ (.Assign [.Name "cell" _] _ _) _); refine' setF ?st1 ?st2 2 ?st3 ?st4 ?ste ?st5; (case' st1 => assumption); (case' st2 => assumption); (case' st3 => rfl); (case' st4 => decide +kernel); (case' ste => wtm_at "ev"); (case' st5 => rfl))
  | ((with_reducible show S1 _ _ (.Assign [.Name "bent" _] _ _) _); refine' setF ?st1 ?st2 3 ?st3 ?st4 ?ste ?st5; (case' st1 => assumption); (case' st2 => assumption); (case' st3 => rfl); (case' st4 => decide +kernel); (case' ste => wtm_at "ev"); (case' st5 => rfl)))
local macro_rules | `(tactic| wtm_at "app") => `(tactic| first
  | ((with_reducible show S1 _ _ (.Expr (.Call (.Attribute (.Name "items" _) _ _) _ _ _) _) _); refine' appF ?ap1 0 ?ap2 ?ap3 ?ap4 ?ape ?aps ?ap5 ?ap6; (case' ap1 => assumption); (case' ap2 => rfl); (case' ap3 => rfl); (case' ap4 => decide +kernel); (case' ape => wtm_at "ev"); (case' aps => try (wtm_at "sz")); (case' ap5 => decide +kernel); (case' ap6 => decide +kernel))
  | ((with_reducible show S1 _ _ (.Expr (.Call (.Attribute (.Name "place" _) _ _) _ _ _) _) _); refine' appF ?ap1 1 ?ap2 ?ap3 ?ap4 ?ape ?aps ?ap5 ?ap6; (case' ap1 => assumption); (case' ap2 => rfl); (case' ap3 => rfl); (case' ap4 => decide +kernel); (case' ape => wtm_at "ev"); (case' aps => try (wtm_at "sz")); (case' ap5 => decide +kernel); (case' ap6 => decide +kernel))
  | ((with_reducible show S1 _ _ (.Expr (.Call (.Attribute (.Name "cell" _) _ _) _ _ _) _) _); refine' appF ?ap1 2 ?ap2 ?ap3 ?ap4 ?ape ?aps ?ap5 ?ap6; (case' ap1 => assumption); (case' ap2 => rfl); (case' ap3 => rfl); (case' ap4 => decide +kernel); (case' ape => wtm_at "ev"); (case' aps => try (wtm_at "sz")); (case' ap5 => decide +kernel); (case' ap6 => decide +kernel))
  | ((with_reducible show S1 _ _ (.Expr (.Call (.Attribute (.Name "bent" _) _ _) _ _ _) _) _); refine' appF ?ap1 3 ?ap2 ?ap3 ?ap4 ?ape ?aps ?ap5 ?ap6; (case' ap1 => assumption); (case' ap2 => rfl); (case' ap3 => rfl); (case' ap4 => decide +kernel); (case' ape => wtm_at "ev"); (case' aps => try (wtm_at "sz")); (case' ap5 => decide +kernel); (case' ap6 => decide +kernel)))
local macro_rules | `(tactic| wtm_at "put") => `(tactic| first
  | ((with_reducible show S1 _ _ (.Assign [.Subscript (.Name "items" _) _ _] _ _) _); refine' putF ?pu1 0 ?pu2 ?pu3 ?pu4 ?pue ?pui ?pu5 ?pu6 ?pu7 ?pu8; (case' pu1 => assumption); (case' pu2 => rfl); (case' pu3 => rfl); (case' pu4 => decide +kernel); (case' pue => wtm_at "ev"); (case' pui => wtm_at "ev"); (case' pu5 => try (wtm_at "sd")); (case' pu6 => try (wtm_at "sd")); (case' pu7 => decide +kernel); (case' pu8 => decide +kernel))
  | ((with_reducible show S1 _ _ (.Assign [.Subscript (.Name "place" _) _ _] _ _) _); refine' putF ?pu1 1 ?pu2 ?pu3 ?pu4 ?pue ?pui ?pu5 ?pu6 ?pu7 ?pu8; (case' pu1 => assumption); (case' pu2 => rfl); (case' pu3 => rfl); (case' pu4 => decide +kernel); (case' pue => wtm_at "ev"); (case' pui => wtm_at "ev"); (case' pu5 => try (wtm_at "sd")); (case' pu6 => try (wtm_at "sd")); (case' pu7 => decide +kernel); (case' pu8 => decide +kernel))
  | ((with_reducible show S1 _ _ (.Assign [.Subscript (.Name "cell" _) _ _] _ _) _); refine' putF ?pu1 2 ?pu2 ?pu3 ?pu4 ?pue ?pui ?pu5 ?pu6 ?pu7 ?pu8; (case' pu1 => assumption); (case' pu2 => rfl); (case' pu3 => rfl); (case' pu4 => decide +kernel); (case' pue => wtm_at "ev"); (case' pui => wtm_at "ev"); (case' pu5 => try (wtm_at "sd")); (case' pu6 => try (wtm_at "sd")); (case' pu7 => decide +kernel); (case' pu8 => decide +kernel))
  | ((with_reducible show S1 _ _ (.Assign [.Subscript (.Name "bent" _) _ _] _ _) _); refine' putF ?pu1 3 ?pu2 ?pu3 ?pu4 ?pue ?pui ?pu5 ?pu6 ?pu7 ?pu8; (case' pu1 => assumption); (case' pu2 => rfl); (case' pu3 => rfl); (case' pu4 => decide +kernel); (case' pue => wtm_at "ev"); (case' pui => wtm_at "ev"); (case' pu5 => try (wtm_at "sd")); (case' pu6 => try (wtm_at "sd")); (case' pu7 => decide +kernel); (case' pu8 => decide +kernel)))
local macro_rules | `(tactic| wtm_at "reto") => `(tactic| first
  | ((with_reducible show S1 _ _ (.Return (some (.Name "items" _)) _) _); exact retOF (by assumption) 0 (by rfl) rfl (by decide +kernel) (by decide +kernel) (by decide +kernel))
  | ((with_reducible show S1 _ _ (.Return (some (.Name "place" _)) _) _); exact retOF (by assumption) 1 (by rfl) rfl (by decide +kernel) (by decide +kernel) (by decide +kernel))
  | ((with_reducible show S1 _ _ (.Return (some (.Name "cell" _)) _) _); exact retOF (by assumption) 2 (by rfl) rfl (by decide +kernel) (by decide +kernel) (by decide +kernel))
  | ((with_reducible show S1 _ _ (.Return (some (.Name "bent" _)) _) _); exact retOF (by assumption) 3 (by rfl) rfl (by decide +kernel) (by decide +kernel) (by decide +kernel)))
local macro_rules | `(tactic| wtm_at "tgt") => `(tactic| first
  | ((with_reducible show PG _ (.Name "items" _) _); exact tgF (by assumption) (by assumption) 0 (by rfl) (by decide +kernel))
  | ((with_reducible show PG _ (.Name "place" _) _); exact tgF (by assumption) (by assumption) 1 (by rfl) (by decide +kernel))
  | ((with_reducible show PG _ (.Name "cell" _) _); exact tgF (by assumption) (by assumption) 2 (by rfl) (by decide +kernel))
  | ((with_reducible show PG _ (.Name "bent" _) _); exact tgF (by assumption) (by assumption) 3 (by rfl) (by decide +kernel)))
theorem ok_with {f : Addr} {fd : FuncData} (F : Fun K "_law_with" "_law_with" s__law_with f fd) (hm : mg "_law_with" = some (.ref f)) (b : Binds K fd ["items", "place", "cell", "bent"] []) : Fn P w K mg base 1 "_law_with" ["items", "place", "cell", "bent"] rWith := by
  refine fnF F hm b sc__law_with (fun ds r h => by cases h; rfl) fun X hX hT ds r h => ?_
  cases h with
  | @mk r f0 at' c b hr =>
    refine' sm_cons (A1 := [.dat (seqR false (.set 0 f0 :: r)), .dat (.int (at' : Nat)), .dat (.int c), .dat (wrapR c b f0).enc]) ?s1 ?_
    case' s1 =>
      unfold wrapR
      by_cases h : c % 3 = 0
      · rw [if_pos h]
        refine' s1_if (v := true) (et_eq ?c1 (decide_eq_true h)) (fun _ => ?c2) fun z => nomatch z
        case' c1 => wtm_at "test"
        case' c2 =>
          refine' sm_one (setF hX hT 3 (by rfl) ?d1 (ev_eq (ev_tup (ea_cons ev_str (ea_cons ?d2 (ea_cons (ev_dropT (xs := [Raw.set 0 f0, b, b]) (enc := Raw.enc) ?d3 ?d4 ?d5) ea_nil))) ?d6) ?d7) (by rfl))
          case' d1 => decide +kernel
          case' d2 => wtm_at "ev"
          case' d3 =>
            refine' ev_eq (ev_tup (ds := [.tuple [.str "set", .int 0, tI f0], b.enc, b.enc]) (ea_cons (ev_tup (ds := [.str "set", .int 0, tI f0]) (ea_cons ev_str (ea_cons ev_int (ea_cons (ev_atD (k := false) (ds := [.str "set", .int 0, tI f0]) (i := 2) (evs_dat (ev_atD (k := false) (ds := (Raw.set 0 f0 :: r).map Raw.enc) (i := ((0 : Nat) : Int)) ?e1 ?e2 (.lit ?e3) (fun _ _ => rfl)) SeqD.tup) ?e4 (.lit rfl) (fun _ _ => rfl)) ea_nil))) ?e5) (ea_cons ?e6 (ea_cons ?e7 ea_nil))) ?e8) ?e9
            case' e1 =>
              refine' evs_dat ?e1a SeqD.tup
              case' e1a => exact (show Ev X [.dat (seqR false (.set 0 f0 :: r)), .dat (.int (at' : Nat)), .dat (.int c), .dat b.enc] _ (.dat (seqR false (.set 0 f0 :: r))) by wtm_at "ev")
            case' e2 => exact ev_int
            case e3 => rw [← encR_set]; exact atI_nat rfl
            case' e4 => exact ev_int
            case e5 => rw [sizeLine_eq]; simp
            case' e6 => wtm_at "ev"
            case' e7 => wtm_at "ev"
            case e8 => rw [sizeLine_eq]; simp
            case e9 => rw [← encR_set]; rfl
          case' d4 => wtm_at "ev"
          case d5 => omega
          case d6 => rw [sizeLine_eq]; simp
          case d7 => rw [encR_again]; rfl
      · rw [if_neg h]
        refine' s1_if (v := false) (et_eq ?c3 (decide_eq_false h)) (fun z => nomatch z) fun _ => sm_nil
        case' c3 => wtm_at "test"
    unfold lawWith
    generalize wrapR c b f0 = b' at *
    generalize hrs : Raw.set 0 f0 :: r = rs at *
    have hl : rs.length ≤ 101 := by rw [← hrs, List.length_cons]; omega
    have rd : ∀ {q : Pos}, Ev X [.dat (seqR false rs), .dat (.int (at' : Nat)), .dat (.int c), .dat b'.enc] (.Name "items" q) (.dat (.tuple (rs.map Raw.enc))) := fun {q} => (show Ev X [.dat (seqR false rs), .dat (.int (at' : Nat)), .dat (.int c), .dat b'.enc] _ (.dat (seqR false rs)) by wtm_at "ev")
    refine' sm_end (s1_retE (ev_eq (ev_bin (ev_bin (ev_takeT (xs := rs) (enc := Raw.enc) rd ?g1 ?g2) (ev_tup (ds := [b'.enc]) (ea_cons ?g3 ea_nil) ?g4) (BinD.cat ?g5)) (ev_dropT (xs := rs) (enc := Raw.enc) rd ?g6 ?g7) (BinD.cat ?g8)) ?g9) rfl)
    case' g1 => wtm_at "ev"
    case g2 => omega
    case' g3 => wtm_at "ev"
    case g4 => rw [sizeLine_eq]; simp
    case g5 => rw [sizeLine_eq, List.length_map, List.length_take, List.length_singleton]; omega
    case' g6 => wtm_at "ev"
    case g7 => omega
    case g8 => rw [sizeLine_eq, List.length_append, List.length_map, List.length_map, List.length_take, List.length_drop, List.length_singleton]; omega
    case g9 =>
      rw [Int.toNat_natCast]
      show _ = C.dat (.tuple _)
      rw [List.map_append, List.map_append]
      rfl
end
end W

namespace W
open PySem PySem.Spec PyProof.Rows L2 LR
/-- none of these classes -/
def NoneOf (K : PySem.W.Frag) (D : Addr) : List Addr → Prop
  | [] => True
  | c :: r => PySem.W.kitOne K (.ref D) (.ref c) = some false ∧ NoneOf K D r
theorem none_of {K : PySem.W.Frag} {D : Addr} : ∀ {cs : List Addr}, NoneOf K D cs → ∀ us, Vals (cs.map V.ref) us → PySem.W.kitAny K (.ref D) us = some false
  | [], _, us, h => by
    cases h
    rw [PySem.W.kitAny]
  | c :: r, h, us, hv => by
    cases hv with
    | cons a b =>
      cases a
      rw [PySem.W.kitAny, h.1]
      exact none_of h.2 _ b
end W

namespace W
open PySem PySem.Spec PyProof.Rows L2 LR
section
variable {P : Program} {w : World} {K : PySem.W.Frag} {mg : Str → Option Value} {base : Heap}
inductive rLaw : List PyData → Res → Prop
  | mk {s : List Int} (h : s.length ≤ 63) : rLaw [.list (s.map .int)] (.ok (.dat (.bool true)))
local macro_rules | `(tactic| wtm_at "R") => `(tactic| first
  | ((with_reducible apply rCell.mk) <;> first | (with_reducible assumption) | omega)
  | ((with_reducible apply rPrime.mk) <;> first | (with_reducible assumption) | omega)
  | (constructor; all_goals try (wtm_at "sd")))
local macro_rules | `(tactic| wtm_at "nm") => `(tactic| first
  | ((with_reducible show Ev _ _ (.Name "script" _) _); exact nmF (by assumption) 0 (by rfl) rfl (by decide +kernel) (by decide +kernel) (by decide +kernel))
  | ((with_reducible show Ev _ _ (.Name "P" _) _); exact nmF (by assumption) 1 (by rfl) rfl (by decide +kernel) (by decide +kernel) (by decide +kernel))
  | ((with_reducible show Ev _ _ (.Name "many" _) _); exact nmF (by assumption) 2 (by rfl) rfl (by decide +kernel) (by decide +kernel) (by decide +kernel))
  | ((with_reducible show Ev _ _ (.Name "way" _) _); exact nmF (by assumption) 3 (by rfl) rfl (by decide +kernel) (by decide +kernel) (by decide +kernel))
  | ((with_reducible show Ev _ _ (.Name "more" _) _); exact nmF (by assumption) 4 (by rfl) rfl (by decide +kernel) (by decide +kernel) (by decide +kernel))
  | ((with_reducible show Ev _ _ (.Name "form" _) _); exact nmF (by assumption) 5 (by rfl) rfl (by decide +kernel) (by decide +kernel) (by decide +kernel))
  | ((with_reducible show Ev _ _ (.Name "items" _) _); exact nmF (by assumption) 6 (by rfl) rfl (by decide +kernel) (by decide +kernel) (by decide +kernel))
  | ((with_reducible show Ev _ _ (.Name "due" _) _); exact nmF (by assumption) 7 (by rfl) rfl (by decide +kernel) (by decide +kernel) (by decide +kernel))
  | ((with_reducible show Ev _ _ (.Name "boxes" _) _); exact nmF (by assumption) 8 (by rfl) rfl (by decide +kernel) (by decide +kernel) (by decide +kernel))
  | ((with_reducible show Ev _ _ (.Name "handed" _) _); exact nmF (by assumption) 9 (by rfl) rfl (by decide +kernel) (by decide +kernel) (by decide +kernel))
  | ((with_reducible show Ev _ _ (.Name "bent" _) _); exact nmF (by assumption) 10 (by rfl) rfl (by decide +kernel) (by decide +kernel) (by decide +kernel))
  | ((with_reducible show Ev _ _ (.Name "size" _) _); exact nmF (by assumption) 11 (by rfl) rfl (by decide +kernel) (by decide +kernel) (by decide +kernel))
  | ((with_reducible show Ev _ _ (.Name "found" _) _); exact nmF (by assumption) 12 (by rfl) rfl (by decide +kernel) (by decide +kernel) (by decide +kernel))
  | ((with_reducible show Ev _ _ (.Name "marks" _) _); exact nmF (by assumption) 13 (by rfl) rfl (by decide +kernel) (by decide +kernel) (by decide +kernel))
  | ((with_reducible show Ev _ _ (.Name "other" _) _); exact nmF (by assumption) 14 (by rfl) rfl (by decide +kernel) (by decide +kernel) (by decide +kernel))
  | ((with_reducible show Ev _ _ (.Name "e" _) _); exact nmF (by assumption) 15 (by rfl) rfl (by decide +kernel) (by decide +kernel) (by decide +kernel)))
local macro_rules | `(tactic| wtm_at "own") => `(tactic| first
  | ((with_reducible show EvS _ _ (.Name "script" _) _ _); exact ownF (by assumption) 0 (by rfl) rfl (by decide +kernel) (by decide +kernel) (by decide +kernel))
  | ((with_reducible show EvS _ _ (.Name "P" _) _ _); exact ownF (by assumption) 1 (by rfl) rfl (by decide +kernel) (by decide +kernel) (by decide +kernel))
  | ((with_reducible show EvS _ _ (.Name "many" _) _ _); exact ownF (by assumption) 2 (by rfl) rfl (by decide +kernel) (by decide +kernel) (by decide +kernel))
  | ((with_reducible show EvS _ _ (.Name "way" _) _ _); exact ownF (by assumption) 3 (by rfl) rfl (by decide +kernel) (by decide +kernel) (by decide +kernel))
  | ((with_reducible show EvS _ _ (.Name "more" _) _ _); exact ownF (by assumption) 4 (by rfl) rfl (by decide +kernel) (by decide +kernel) (by decide +kernel))
  | ((with_reducible show EvS _ _ (.Name "form" _) _ _); exact ownF (by assumption) 5 (by rfl) rfl (by decide +kernel) (by decide +kernel) (by decide +kernel))
  | ((with_reducible show EvS _ _ (.Name "items" _) _ _); exact ownF (by assumption) 6 (by rfl) rfl (by decide +kernel) (by decide +kernel) (by decide +kernel))
  | ((with_reducible show EvS _ _ (.Name "due" _) _ _); exact ownF (by assumption) 7 (by rfl) rfl (by decide +kernel) (by decide +kernel) (by decide +kernel))
  | ((with_reducible show EvS _ _ (.Name "boxes" _) _ _); exact ownF (by assumption) 8 (by rfl) rfl (by decide +kernel) (by decide +kernel) (by decide +kernel))
  | ((with_reducible show EvS _ _ (.Name "handed" _) _ _); exact ownF (by assumption) 9 (by rfl) rfl (by decide +kernel) (by decide +kernel) (by decide +kernel))
  | ((with_reducible show EvS _ _ (.Name "bent" _) _ _); exact ownF (by assumption) 10 (by rfl) rfl (by decide +kernel) (by decide +kernel) (by decide +kernel))
  | ((with_reducible show EvS _ _ (.Name "size" _) _ _); exact ownF (by assumption) 11 (by rfl) rfl (by decide +kernel) (by decide +kernel) (by decide +kernel))
  | ((with_reducible show EvS _ _ (.Name "found" _) _ _); exact ownF (by assumption) 12 (by rfl) rfl (by decide +kernel) (by decide +kernel) (by decide +kernel))
  | ((with_reducible show EvS _ _ (.Name "marks" _) _ _); exact ownF (by assumption) 13 (by rfl) rfl (by decide +kernel) (by decide +kernel) (by decide +kernel))
  | ((with_reducible show EvS _ _ (.Name "other" _) _ _); exact ownF (by assumption) 14 (by rfl) rfl (by decide +kernel) (by decide +kernel) (by decide +kernel))
  | ((with_reducible show EvS _ _ (.Name "e" _) _ _); exact ownF (by assumption) 15 (by rfl) rfl (by decide +kernel) (by decide +kernel) (by decide +kernel)))
local macro_rules | `(tactic| wtm_at "ownl") => `(tactic| first
  | ((with_reducible show EvL _ _ (.Name "script" _) _); exact ownlF (by assumption) 0 (by rfl) rfl (by decide +kernel) (by decide +kernel) (by decide +kernel))
  | ((with_reducible show EvL _ _ (.Name "P" _) _); exact ownlF (by assumption) 1 (by rfl) rfl (by decide +kernel) (by decide +kernel) (by decide +kernel))
  | ((with_reducible show EvL _ _ (.Name "many" _) _); exact ownlF (by assumption) 2 (by rfl) rfl (by decide +kernel) (by decide +kernel) (by decide +kernel))
  | ((with_reducible show EvL _ _ (.Name "way" _) _); exact ownlF (by assumption) 3 (by rfl) rfl (by decide +kernel) (by decide +kernel) (by decide +kernel))
  | ((with_reducible show EvL _ _ (.Name "more" _) _); exact ownlF (by assumption) 4 (by rfl) rfl (by decide +kernel) (by decide +kernel) (by decide +kernel))
  | ((with_reducible show EvL _ _ (.Name "form" _) _); exact ownlF (by assumption) 5 (by rfl) rfl (by decide +kernel) (by decide +kernel) (by decide +kernel))
  | ((with_reducible show EvL _ _ (.Name "items" _) _); exact ownlF (by assumption) 6 (by rfl) rfl (by decide +kernel) (by decide +kernel) (by decide +kernel))
  | ((with_reducible show EvL _ _ (.Name "due" _) _); exact ownlF (by assumption) 7 (by rfl) rfl (by decide +kernel) (by decide +kernel) (by decide +kernel))
  | ((with_reducible show EvL _ _ (.Name "boxes" _) _); exact ownlF (by assumption) 8 (by rfl) rfl (by decide +kernel) (by decide +kernel) (by decide +kernel))
  | ((with_reducible show EvL _ _ (.Name "handed" _) _); exact ownlF (by assumption) 9 (by rfl) rfl (by decide +kernel) (by decide +kernel) (by decide +kernel))
  | ((with_reducible show EvL _ _ (.Name "bent" _) _); exact ownlF (by assumption) 10 (by rfl) rfl (by decide +kernel) (by decide +kernel) (by decide +kernel))
  | ((with_reducible show EvL _ _ (.Name "size" _) _); exact ownlF (by assumption) 11 (by rfl) rfl (by decide +kernel) (by decide +kernel) (by decide +kernel))
  | ((with_reducible show EvL _ _ (.Name "found" _) _); exact ownlF (by assumption) 12 (by rfl) rfl (by decide +kernel) (by decide +kernel) (by decide +kernel))
  | ((with_reducible show EvL _ _ (.Name "marks" _) _); exact ownlF (by assumption) 13 (by rfl) rfl (by decide +kernel) (by decide +kernel) (by decide +kernel))
  | ((with_reducible show EvL _ _ (.Name "other" _) _); exact ownlF (by assumption) 14 (by rfl) rfl (by decide +kernel) (by decide +kernel) (by decide +kernel))
  | ((with_reducible show EvL _ _ (.Name "e" _) _); exact ownlF (by assumption) 15 (by rfl) rfl (by decide +kernel) (by decide +kernel) (by decide +kernel)))
local macro_rules | `(tactic| wtm_at "set") => `(tactic| first
  | ((with_reducible show S1 _ _ (.Assign [.Name "script" _] _ _) _); refine' setF ?st1 ?st2 0 ?st3 ?st4 ?ste ?st5; (case' st1 => assumption); (case' st2 => assumption); (case' st3 => rfl); (case' st4 => decide +kernel); (case' ste => wtm_at "ev"); (case' st5 => rfl))
  | ((with_reducible show S1 _ _ (.Assign [.Name "P" _] _ _) _); refine' setF ?st1 ?st2 1 ?st3 ?st4 ?ste ?st5; (case' st1 => assumption); (case' st2 => assumption); (case' st3 => rfl); (case' st4 => decide +kernel); (case' ste => wtm_at "ev"); (case' st5 => rfl))
  | ((with_reducible show S1 _ _ (.Assign [.Name "many" _] _ _) _); refine' setF ?st1 ?st2 2 ?st3 ?st4 ?ste ?st5; (case' st1 => assumption); (case' st2 => assumption); (case' st3 => rfl); (case' st4 => decide +kernel); (case' ste => wtm_at "ev"); (case' st5 => rfl))
  | ((with_reducible show S1 _ _ (.Assign [.Name "way" _] _ _) _); refine' setF ?st1 ?st2 3 ?st3 ?st4 ?ste ?st5; (case' st1 => assumption); (case' st2 => assumption); (case' st3 => rfl); (case' st4 => decide +kernel); (case' ste => wtm_at "ev"); (case' st5 => rfl))
  | ((with_reducible show S1 _ _ (.Assign [.Name "more" _] _ _) _); refine' setF ?st1 ?st2 4 ?st3 ?st4 ?ste ?st5; (case' st1 => assumption); (case' st2 => assumption); (case' st3 => rfl); (case' st4 => decide +kernel); (case' ste => wtm_at "ev"); (case' st5 => rfl))
  | ((with_reducible show S1 _ _ (.Assign [.Name "form" _] _ _) _); refine' setF ?st1 ?st2 5 ?st3 ?st4 ?ste ?st5; (case' st1 => assumption); (case' st2 => assumption); (case' st3 => rfl); (case' st4 => decide +kernel); (case' ste => wtm_at "ev"); (case' st5 => rfl))
  | ((with_reducible show S1 _ _ (.Assign [.Name "items" _] _ _) _); refine' setF ?st1 ?st2 6 ?st3 ?st4 ?ste ?st5; (case' st1 => assumption); (case' st2 => assumption); (case' st3 => rfl); (case' st4 => decide +kernel); (case' ste => wtm_at "ev"); (case' st5 => rfl))
  | ((with_reducible show S1 _ _ (.Assign [.Name "due" _] _ _) _); refine' setF ?st1 ?st2 7 ?st3 ?st4 ?ste ?st5; (case' st1 => assumption); (case' st2 => assumption); (case' st3 => rfl); (case' st4 => decide +kernel); (case' ste => wtm_at "ev"); (case' st5 => rfl))
  | ((with_reducible show S1 _ _ (.Assign [.Name "boxes" _] _ _) _); refine' setF ?st1 ?st2 8 ?st3 ?st4 ?ste ?st5; (case' st1 => assumption); (case' st2 => assumption); (case' st3 => rfl); (case' st4 => decide +kernel); (case' ste => wtm_at "ev"); (case' st5 => rfl))
  | ((with_reducible show S1 _ _ (.Assign [.Name "handed" _] _ _) _); refine' setF ?st1 ?st2 9 ?st3 ?st4 ?ste ?st5; (case' st1 => assumption); (case' st2 => assumption); (case' st3 => rfl); (case' st4 => decide +kernel); (case' ste => wtm_at "ev"); (case' st5 => rfl))
  | ((with_reducible show S1 _ _ (.Assign [.Name "bent" _] _ _) _); refine' setF ?st1 ?st2 10 ?st3 ?st4 ?ste ?st5; (case' st1 => assumption); (case' st2 => assumption); (case' st3 => rfl); (case' st4 => decide +kernel); (case' ste => wtm_at "ev"); (case' st5 => rfl))
  | ((with_reducible show S1 _ _ (.Assign [.Name "size" _] _ _) _); refine' setF ?st1 ?st2 11 ?st3 ?st4 ?ste ?st5; (case' st1 => assumption); (case' st2 => assumption); (case' st3 => rfl); (case' st4 => decide +kernel); (case' ste => wtm_at "ev"); (case' st5 => rfl))
  | ((with_reducible show S1 _ _ (.Assign [.Name "found" _] _ _) _); refine' setF ?st1 ?st2 12 ?st3 ?st4 ?ste ?st5; (case' st1 => assumption); (case' st2 => assumption); (case' st3 => rfl); (case' st4 => decide +kernel); (case' ste => wtm_at "ev"); (case' st5 => rfl))
  | ((with_reducible show S1 _ _ (.Assign [.Name "marks" _] _ _) _); refine' setF ?st1 ?st2 13 ?st3 ?st4 ?ste ?st5; (case' st1 => assumption); (case' st2 => assumption); (case' st3 => rfl); (case' st4 => decide +kernel); (case' ste => wtm_at "ev"); (case' st5 => rfl))
  | ((with_reducible show S1 _ _ (.Assign [.Name "other" _] _ _) _); refine' setF ?st1 ?st2 14 ?st3 ?st4 ?ste ?st5; (case' st1 => assumption); (case' st2 => assumption); (case' st3 => rfl); (case' st4 => decide +kernel); (case' ste => wtm_at "ev"); (case' st5 => rfl))
  | ((with_reducible show S1 _ _ (.Assign [.Name "e" _] _ _) _); refine' setF ?st1 ?st2 15 ?st3 ?st4 ?ste ?st5; (case' st1 => assumption); (case' st2 => assumption); (case' st3 => rfl); (case' st4 => decide +kernel); (case' ste => wtm_at "ev"); (case' st5 => rfl)))
local macro_rules | `(tactic| wtm_at "app") => `(tactic| first
  | ((with_reducible show S1 _ _ (.Expr (.Call (.Attribute (.Name "script" _) _ _) _ _ _) _) _); refine' appF ?ap1 0 ?ap2 ?ap3 ?ap4 ?ape ?aps ?ap5 ?ap6; (case' ap1 => assumption); (case' ap2 => rfl); (case' ap3 => rfl); (case' ap4 => decide +kernel); (case' ape => wtm_at "ev"); (case' aps => try (wtm_at "sz")); (case' ap5 => decide +kernel); (case' ap6 => decide +kernel))
  | ((with_reducible show S1 _ _ (.Expr (.Call (.Attribute (.Name "P" _) _ _) _ _ _) _) _); refine' appF ?ap1 1 ?ap2 ?ap3 ?ap4 ?ape ?aps ?ap5 ?ap6; (case' ap1 => assumption); (case' ap2 => rfl); (case' ap3 => rfl); (case' ap4 => decide +kernel); (case' ape => wtm_at "ev"); (case' aps => try (wtm_at "sz")); (case' ap5 => decide +kernel); (case' ap6 => decide +kernel))
  | ((with_reducible show S1 _ _ (.Expr (.Call (.Attribute (.Name "many" _) _ _) _ _ _) _) _); refine' appF ?ap1 2 ?ap2 ?ap3 ?ap4 ?ape ?aps ?ap5 ?ap6; (case' ap1 => assumption); (case' ap2 => rfl); (case' ap3 => rfl); (case' ap4 => decide +kernel); (case' ape => wtm_at "ev"); (case' aps => try (wtm_at "sz")); (case' ap5 => decide +kernel); (case' ap6 => decide +kernel))
  | ((with_reducible show S1 _ _ (.Expr (.Call (.Attribute (.Name "way" _) _ _) _ _ _) _) _); refine' appF ?ap1 3 ?ap2 ?ap3 ?ap4 ?ape ?aps ?ap5 ?ap6; (case' ap1 => assumption); (case' ap2 => rfl); (case' ap3 => rfl); (case' ap4 => decide +kernel); (case' ape => wtm_at "ev"); (case' aps => try (wtm_at "sz")); (case' ap5 => decide +kernel); (case' ap6 => decide +kernel))
  | ((with_reducible show S1 _ _ (.Expr (.Call (.Attribute (.Name "more" _) _ _) _ _ _) _) _); refine' appF ?ap1 4 ?ap2 ?ap3 ?ap4 ?ape ?aps ?ap5 ?ap6; (case' ap1 => assumption); (case' ap2 => rfl); (case' ap3 => rfl); (case' ap4 => decide +kernel); (case' ape => wtm_at "ev"); (case' aps => try (wtm_at "sz")); (case' ap5 => decide +kernel); (case' ap6 => decide +kernel))
  | ((with_reducible show S1 _ _ (.Expr (.Call (.Attribute (.Name "form" _) _ _) _ _ _) _) _); refine' appF ?ap1 5 ?ap2 ?ap3 ?ap4 ?ape ?aps ?ap5 ?ap6; (case' ap1 => assumption); (case' ap2 => rfl); (case' ap3 => rfl); (case' ap4 => decide +kernel); (case' ape => wtm_at "ev"); (case' aps => try (wtm_at "sz")); (case' ap5 => decide +kernel); (case' ap6 => decide +kernel))
  | ((with_reducible show S1 _ _ (.Expr (.Call (.Attribute (.Name "items" _) _ _) _ _ _) _) _); refine' appF ?ap1 6 ?ap2 ?ap3 ?ap4 ?ape ?aps ?ap5 ?ap6; (case' ap1 => assumption); (case' ap2 => rfl); (case' ap3 => rfl); (case' ap4 => decide +kernel); (case' ape => wtm_at "ev"); (case' aps => try (wtm_at "sz")); (case' ap5 => decide +kernel); (case' ap6 => decide +kernel))
  | ((with_reducible show S1 _ _ (.Expr (.Call (.Attribute (.Name "due" _) _ _) _ _ _) _) _); refine' appF ?ap1 7 ?ap2 ?ap3 ?ap4 ?ape ?aps ?ap5 ?ap6; (case' ap1 => assumption); (case' ap2 => rfl); (case' ap3 => rfl); (case' ap4 => decide +kernel); (case' ape => wtm_at "ev"); (case' aps => try (wtm_at "sz")); (case' ap5 => decide +kernel); (case' ap6 => decide +kernel))
  | ((with_reducible show S1 _ _ (.Expr (.Call (.Attribute (.Name "boxes" _) _ _) _ _ _) _) _); refine' appF ?ap1 8 ?ap2 ?ap3 ?ap4 ?ape ?aps ?ap5 ?ap6; (case' ap1 => assumption); (case' ap2 => rfl); (case' ap3 => rfl); (case' ap4 => decide +kernel); (case' ape => wtm_at "ev"); (case' aps => try (wtm_at "sz")); (case' ap5 => decide +kernel); (case' ap6 => decide +kernel))
  | ((with_reducible show S1 _ _ (.Expr (.Call (.Attribute (.Name "handed" _) _ _) _ _ _) _) _); refine' appF ?ap1 9 ?ap2 ?ap3 ?ap4 ?ape ?aps ?ap5 ?ap6; (case' ap1 => assumption); (case' ap2 => rfl); (case' ap3 => rfl); (case' ap4 => decide +kernel); (case' ape => wtm_at "ev"); (case' aps => try (wtm_at "sz")); (case' ap5 => decide +kernel); (case' ap6 => decide +kernel))
  | ((with_reducible show S1 _ _ (.Expr (.Call (.Attribute (.Name "bent" _) _ _) _ _ _) _) _); refine' appF ?ap1 10 ?ap2 ?ap3 ?ap4 ?ape ?aps ?ap5 ?ap6; (case' ap1 => assumption); (case' ap2 => rfl); (case' ap3 => rfl); (case' ap4 => decide +kernel); (case' ape => wtm_at "ev"); (case' aps => try (wtm_at "sz")); (case' ap5 => decide +kernel); (case' ap6 => decide +kernel))
  | ((with_reducible show S1 _ _ (.Expr (.Call (.Attribute (.Name "size" _) _ _) _ _ _) _) _); refine' appF ?ap1 11 ?ap2 ?ap3 ?ap4 ?ape ?aps ?ap5 ?ap6; (case' ap1 => assumption); (case' ap2 => rfl); (case' ap3 => rfl); (case' ap4 => decide +kernel); (case' ape => wtm_at "ev"); (case' aps => try (wtm_at "sz")); (case' ap5 => decide +kernel); (case' ap6 => decide +kernel))
  | ((with_reducible show S1 _ _ (.Expr (.Call (.Attribute (.Name "found" _) _ _) _ _ _) _) _); refine' appF ?ap1 12 ?ap2 ?ap3 ?ap4 ?ape ?aps ?ap5 ?ap6; (case' ap1 => assumption); (case' ap2 => rfl); (case' ap3 => rfl); (case' ap4 => decide +kernel); (case' ape => wtm_at "ev"); (case' aps => try (wtm_at "sz")); (case' ap5 => decide +kernel); (case' ap6 => decide +kernel))
  | ((with_reducible show S1 _ _ (.Expr (.Call (.Attribute (.Name "marks" _) _ _) _ _ _) _) _); refine' appF ?ap1 13 ?ap2 ?ap3 ?ap4 ?ape ?aps ?ap5 ?ap6; (case' ap1 => assumption); (case' ap2 => rfl); (case' ap3 => rfl); (case' ap4 => decide +kernel); (case' ape => wtm_at "ev"); (case' aps => try (wtm_at "sz")); (case' ap5 => decide +kernel); (case' ap6 => decide +kernel))
  | ((with_reducible show S1 _ _ (.Expr (.Call (.Attribute (.Name "other" _) _ _) _ _ _) _) _); refine' appF ?ap1 14 ?ap2 ?ap3 ?ap4 ?ape ?aps ?ap5 ?ap6; (case' ap1 => assumption); (case' ap2 => rfl); (case' ap3 => rfl); (case' ap4 => decide +kernel); (case' ape => wtm_at "ev"); (case' aps => try (wtm_at "sz")); (case' ap5 => decide +kernel); (case' ap6 => decide +kernel))
  | ((with_reducible show S1 _ _ (.Expr (.Call (.Attribute (.Name "e" _) _ _) _ _ _) _) _); refine' appF ?ap1 15 ?ap2 ?ap3 ?ap4 ?ape ?aps ?ap5 ?ap6; (case' ap1 => assumption); (case' ap2 => rfl); (case' ap3 => rfl); (case' ap4 => decide +kernel); (case' ape => wtm_at "ev"); (case' aps => try (wtm_at "sz")); (case' ap5 => decide +kernel); (case' ap6 => decide +kernel)))
local macro_rules | `(tactic| wtm_at "put") => `(tactic| first
  | ((with_reducible show S1 _ _ (.Assign [.Subscript (.Name "script" _) _ _] _ _) _); refine' putF ?pu1 0 ?pu2 ?pu3 ?pu4 ?pue ?pui ?pu5 ?pu6 ?pu7 ?pu8; (case' pu1 => assumption); (case' pu2 => rfl); (case' pu3 => rfl); (case' pu4 => decide +kernel); (case' pue => wtm_at "ev"); (case' pui => wtm_at "ev"); (case' pu5 => try (wtm_at "sd")); (case' pu6 => try (wtm_at "sd")); (case' pu7 => decide +kernel); (case' pu8 => decide +kernel))
  | ((with_reducible show S1 _ _ (.Assign [.Subscript (.Name "P" _) _ _] _ _) _); refine' putF ?pu1 1 ?pu2 ?pu3 ?pu4 ?pue ?pui ?pu5 ?pu6 ?pu7 ?pu8; (case' pu1 => assumption); (case' pu2 => rfl); (case' pu3 => rfl); (case' pu4 => decide +kernel); (case' pue => wtm_at "ev"); (case' pui => wtm_at "ev"); (case' pu5 => try (wtm_at "sd")); (case' pu6 => try (wtm_at "sd")); (case' pu7 => decide +kernel); (case' pu8 => decide +kernel))
  | ((with_reducible show S1 _ _ (.Assign [.Subscript (.Name "many" _) _ _] _ _) _); refine' putF ?pu1 2 ?pu2 ?pu3 ?pu4 ?pue ?pui ?pu5 ?pu6 ?pu7 ?pu8; (case' pu1 => assumption); (case' pu2 => rfl); (case' pu3 => rfl); (case' pu4 => decide +kernel); (case' pue => wtm_at "ev"); (case' pui => wtm_at "ev"); (case' pu5 => try (wtm_at "sd")); (case' pu6 => try (wtm_at "sd")); (case' pu7 => decide +kernel); (case' pu8 => decide +kernel))
  | ((with_reducible show S1 _ _ (.Assign [.Subscript (.Name "way" _) _ _] _ _) _); refine' putF ?pu1 3 ?pu2 ?pu3 ?pu4 ?pue ?pui ?pu5 ?pu6 ?pu7 ?pu8; (case' pu1 => assumption); (case' pu2 => rfl); (case' pu3 => rfl); (case' pu4 => decide +kernel); (case' pue => wtm_at "ev"); (case' pui => wtm_at "ev"); (case' pu5 => try (wtm_at "sd")); (case' pu6 => try (wtm_at "sd")); (case' pu7 => decide +kernel); (case' pu8 => decide +kernel))
  | ((with_reducible show S1 _ _ (.Assign [.Subscript (.Name "more" _) _ _] _ _) _); refine' putF ?pu1 4 ?pu2 ?pu3 ?pu4 ?pue ?pui ?pu5 ?pu6 ?pu7 ?pu8; (case' pu1 => assumption); (case' pu2 => rfl); (case' pu3 => rfl); (case' pu4 => decide +kernel); (case' pue => wtm_at "ev"); (case' pui => wtm_at "ev"); (case' pu5 => try (wtm_at "sd")); (case' pu6 => try (wtm_at "sd")); (case' pu7 => decide +kernel); (case' pu8 => decide +kernel))
  | ((with_reducible show S1 _ _ (.Assign [.Subscript (.Name "form" _) _ _] _ _) _); refine' putF ?pu1 5 ?pu2 ?pu3 ?pu4 ?pue ?pui ?pu5 ?pu6 ?pu7 ?pu8; (case' pu1 => assumption); (case' pu2 => rfl); (case' pu3 => rfl); (case' pu4 => decide +kernel); (case' pue => wtm_at "ev"); (case' pui => wtm_at "ev"); (case' pu5 => try (wtm_at "sd")); (case' pu6 => try (wtm_at "sd")); (case' pu7 => decide +kernel); (case' pu8 => decide +kernel))
  | ((with_reducible show S1 _ _ (.Assign [.Subscript (.Name "items" _) _ _] _ _) _); refine' putF ?pu1 6 ?pu2 ?pu3 ?pu4 ?pue ?pui ?pu5 ?pu6 ?pu7 ?pu8; (case' pu1 => assumption); (case' pu2 => rfl); (case' pu3 => rfl); (case' pu4 => decide +kernel); (case' pue => wtm_at "ev"); (case' pui => wtm_at "ev"); (case' pu5 => try (wtm_at "sd")); (case' pu6 => try (wtm_at "sd")); (case' pu7 => decide +kernel); (case' pu8 => decide +kernel))
  | ((with_reducible show S1 _ _ (.Assign [.Subscript (.Name "due" _) _ _] _ _) _); refine' putF ?pu1 7 ?pu2 ?pu3 ?pu4 ?pue ?pui ?pu5 ?pu6 ?pu7 ?pu8; (case' pu1 => assumption); (case' pu2 => rfl); (case' pu3 => rfl); (case' pu4 => decide +kernel); (case' pue => wtm_at "ev"); (case' pui => wtm_at "ev"); (case' pu5 => try (wtm_at "sd")); (case' pu6 => try (wtm_at "sd")); (case' pu7 => decide +kernel); (case' pu8 => decide +kernel))
  | ((with_reducible show S1 _ _ (.Assign [.Subscript (.Name "boxes" _) _ _] _ _) _); refine' putF ?pu1 8 ?pu2 ?pu3 ?pu4 ?pue ?pui ?pu5 ?pu6 ?pu7 ?pu8; (case' pu1 => assumption); (case' pu2 => rfl); (case' pu3 => rfl); (case' pu4 => decide +kernel); (case' pue => wtm_at "ev"); (case' pui => wtm_at "ev"); (case' pu5 => try (wtm_at "sd")); (case' pu6 => try (wtm_at "sd")); (case' pu7 => decide +kernel); (case' pu8 => decide +kernel))
  | ((with_reducible show S1 _ _ (.Assign [.Subscript (.Name "handed" _) _ _] _ _) _); refine' putF ?pu1 9 ?pu2 ?pu3 ?pu4 ?pue ?pui ?pu5 ?pu6 ?pu7 ?pu8; (case' pu1 => assumption); (case' pu2 => rfl); (case' pu3 => rfl); (case' pu4 => decide +kernel); (case' pue => wtm_at "ev"); (case' pui => wtm_at "ev"); (case' pu5 => try (wtm_at "sd")); (case' pu6 => try (wtm_at "sd")); (case' pu7 => decide +kernel); (case' pu8 => decide +kernel))
  | ((with_reducible show S1 _ _ (.Assign [.Subscript (.Name "bent" _) _ _] _ _) _); refine' putF ?pu1 10 ?pu2 ?pu3 ?pu4 ?pue ?pui ?pu5 ?pu6 ?pu7 ?pu8; (case' pu1 => assumption); (case' pu2 => rfl); (case' pu3 => rfl); (case' pu4 => decide +kernel); (case' pue => wtm_at "ev"); (case' pui => wtm_at "ev"); (case' pu5 => try (wtm_at "sd")); (case' pu6 => try (wtm_at "sd")); (case' pu7 => decide +kernel); (case' pu8 => decide +kernel))
  | ((with_reducible show S1 _ _ (.Assign [.Subscript (.Name "size" _) _ _] _ _) _); refine' putF ?pu1 11 ?pu2 ?pu3 ?pu4 ?pue ?pui ?pu5 ?pu6 ?pu7 ?pu8; (case' pu1 => assumption); (case' pu2 => rfl); (case' pu3 => rfl); (case' pu4 => decide +kernel); (case' pue => wtm_at "ev"); (case' pui => wtm_at "ev"); (case' pu5 => try (wtm_at "sd")); (case' pu6 => try (wtm_at "sd")); (case' pu7 => decide +kernel); (case' pu8 => decide +kernel))
  | ((with_reducible show S1 _ _ (.Assign [.Subscript (.Name "found" _) _ _] _ _) _); refine' putF ?pu1 12 ?pu2 ?pu3 ?pu4 ?pue ?pui ?pu5 ?pu6 ?pu7 ?pu8; (case' pu1 => assumption); (case' pu2 => rfl); (case' pu3 => rfl); (case' pu4 => decide +kernel); (case' pue => wtm_at "ev"); (case' pui => wtm_at "ev"); (case' pu5 => try (wtm_at "sd")); (case' pu6 => try (wtm_at "sd")); (case' pu7 => decide +kernel); (case' pu8 => decide +kernel))
  | ((with_reducible show S1 _ _ (.Assign [.Subscript (.Name "marks" _) _ _] _ _) _); refine' putF ?pu1 13 ?pu2 ?pu3 ?pu4 ?pue ?pui ?pu5 ?pu6 ?pu7 ?pu8; (case' pu1 => assumption); (case' pu2 => rfl); (case' pu3 => rfl); (case' pu4 => decide +kernel); (case' pue => wtm_at "ev"); (case' pui => wtm_at "ev"); (case' pu5 => try (wtm_at "sd")); (case' pu6 => try (wtm_at "sd")); (case' pu7 => decide +kernel); (case' pu8 => decide +kernel))
  | ((with_reducible show S1 _ _ (.Assign [.Subscript (.Name "other" _) _ _] _ _) _); refine' putF ?pu1 14 ?pu2 ?pu3 ?pu4 ?pue ?pui ?pu5 ?pu6 ?pu7 ?pu8; (case' pu1 => assumption); (case' pu2 => rfl); (case' pu3 => rfl); (case' pu4 => decide +kernel); (case' pue => wtm_at "ev"); (case' pui => wtm_at "ev"); (case' pu5 => try (wtm_at "sd")); (case' pu6 => try (wtm_at "sd")); (case' pu7 => decide +kernel); (case' pu8 => decide +kernel))
  | ((with_reducible show S1 _ _ (.Assign [.Subscript (.Name "e" _) _ _] _ _) _); refine' putF ?pu1 15 ?pu2 ?pu3 ?pu4 ?pue ?pui ?pu5 ?pu6 ?pu7 ?pu8; (case' pu1 => assumption); (case' pu2 => rfl); (case' pu3 => rfl); (case' pu4 => decide +kernel); (case' pue => wtm_at "ev"); (case' pui => wtm_at "ev"); (case' pu5 => try (wtm_at "sd")); (case' pu6 => try (wtm_at "sd")); (case' pu7 => decide +kernel); (case' pu8 => decide +kernel)))
local macro_rules | `(tactic| wtm_at "reto") => `(tactic| first
  | ((with_reducible show S1 _ _ (.Return (some (.Name "script" _)) _) _); exact retOF (by assumption) 0 (by rfl) rfl (by decide +kernel) (by decide +kernel) (by decide +kernel))
  | ((with_reducible show S1 _ _ (.Return (some (.Name "P" _)) _) _); exact retOF (by assumption) 1 (by rfl) rfl (by decide +kernel) (by decide +kernel) (by decide +kernel))
  | ((with_reducible show S1 _ _ (.Return (some (.Name "many" _)) _) _); exact retOF (by assumption) 2 (by rfl) rfl (by decide +kernel) (by decide +kernel) (by decide +kernel))
  | ((with_reducible show S1 _ _ (.Return (some (.Name "way" _)) _) _); exact retOF (by assumption) 3 (by rfl) rfl (by decide +kernel) (by decide +kernel) (by decide +kernel))
  | ((with_reducible show S1 _ _ (.Return (some (.Name "more" _)) _) _); exact retOF (by assumption) 4 (by rfl) rfl (by decide +kernel) (by decide +kernel) (by decide +kernel))
  | ((with_reducible show S1 _ _ (.Return (some (.Name "form" _)) _) _); exact retOF (by assumption) 5 (by rfl) rfl (by decide +kernel) (by decide +kernel) (by decide +kernel))
  | ((with_reducible show S1 _ _ (.Return (some (.Name "items" _)) _) _); exact retOF (by assumption) 6 (by rfl) rfl (by decide +kernel) (by decide +kernel) (by decide +kernel))
  | ((with_reducible show S1 _ _ (.Return (some (.Name "due" _)) _) _); exact retOF (by assumption) 7 (by rfl) rfl (by decide +kernel) (by decide +kernel) (by decide +kernel))
  | ((with_reducible show S1 _ _ (.Return (some (.Name "boxes" _)) _) _); exact retOF (by assumption) 8 (by rfl) rfl (by decide +kernel) (by decide +kernel) (by decide +kernel))
  | ((with_reducible show S1 _ _ (.Return (some (.Name "handed" _)) _) _); exact retOF (by assumption) 9 (by rfl) rfl (by decide +kernel) (by decide +kernel) (by decide +kernel))
  | ((with_reducible show S1 _ _ (.Return (some (.Name "bent" _)) _) _); exact retOF (by assumption) 10 (by rfl) rfl (by decide +kernel) (by decide +kernel) (by decide +kernel))
  | ((with_reducible show S1 _ _ (.Return (some (.Name "size" _)) _) _); exact retOF (by assumption) 11 (by rfl) rfl (by decide +kernel) (by decide +kernel) (by decide +kernel))
  | ((with_reducible show S1 _ _ (.Return (some (.Name "found" _)) _) _); exact retOF (by assumption) 12 (by rfl) rfl (by decide +kernel) (by decide +kernel) (by decide +kernel))
  | ((with_reducible show S1 _ _ (.Return (some (.Name "marks" _)) _) _); exact retOF (by assumption) 13 (by rfl) rfl (by decide +kernel) (by decide +kernel) (by decide +kernel))
  | ((with_reducible show S1 _ _ (.Return (some (.Name "other" _)) _) _); exact retOF (by assumption) 14 (by rfl) rfl (by decide +kernel) (by decide +kernel) (by decide +kernel))
  | ((with_reducible show S1 _ _ (.Return (some (.Name "e" _)) _) _); exact retOF (by assumption) 15 (by rfl) rfl (by decide +kernel) (by decide +kernel) (by decide +kernel)))
local macro_rules | `(tactic| wtm_at "tgt") => `(tactic| first
  | ((with_reducible show PG _ (.Name "script" _) _); exact tgF (by assumption) (by assumption) 0 (by rfl) (by decide +kernel))
  | ((with_reducible show PG _ (.Name "P" _) _); exact tgF (by assumption) (by assumption) 1 (by rfl) (by decide +kernel))
  | ((with_reducible show PG _ (.Name "many" _) _); exact tgF (by assumption) (by assumption) 2 (by rfl) (by decide +kernel))
  | ((with_reducible show PG _ (.Name "way" _) _); exact tgF (by assumption) (by assumption) 3 (by rfl) (by decide +kernel))
  | ((with_reducible show PG _ (.Name "more" _) _); exact tgF (by assumption) (by assumption) 4 (by rfl) (by decide +kernel))
  | ((with_reducible show PG _ (.Name "form" _) _); exact tgF (by assumption) (by assumption) 5 (by rfl) (by decide +kernel))
  | ((with_reducible show PG _ (.Name "items" _) _); exact tgF (by assumption) (by assumption) 6 (by rfl) (by decide +kernel))
  | ((with_reducible show PG _ (.Name "due" _) _); exact tgF (by assumption) (by assumption) 7 (by rfl) (by decide +kernel))
  | ((with_reducible show PG _ (.Name "boxes" _) _); exact tgF (by assumption) (by assumption) 8 (by rfl) (by decide +kernel))
  | ((with_reducible show PG _ (.Name "handed" _) _); exact tgF (by assumption) (by assumption) 9 (by rfl) (by decide +kernel))
  | ((with_reducible show PG _ (.Name "bent" _) _); exact tgF (by assumption) (by assumption) 10 (by rfl) (by decide +kernel))
  | ((with_reducible show PG _ (.Name "size" _) _); exact tgF (by assumption) (by assumption) 11 (by rfl) (by decide +kernel))
  | ((with_reducible show PG _ (.Name "found" _) _); exact tgF (by assumption) (by assumption) 12 (by rfl) (by decide +kernel))
  | ((with_reducible show PG _ (.Name "marks" _) _); exact tgF (by assumption) (by assumption) 13 (by rfl) (by decide +kernel))
  | ((with_reducible show PG _ (.Name "other" _) _); exact tgF (by assumption) (by assumption) 14 (by rfl) (by decide +kernel))
  | ((with_reducible show PG _ (.Name "e" _) _); exact tgF (by assumption) (by assumption) 15 (by rfl) (by decide +kernel)))
theorem ok_law {f : Addr} {fd : FuncData} (F : Fun K "law" "law" s_law f fd) (hm : mg "law" = some (.ref f)) (b : Binds K fd ["script"] []) (mi : mg "isinstance" = none) (mv : mg "ValueError" = none) (ml : mg "len" = none)
    (xmP : XM K mg "NoPrime" "LongError") (xdP : XD K mg "NoPrime") (xvP : XV K mg "NoPrime" "ValueError" true) (p1 : XO K mg "NoPrime" "NoPrime" true) (p2 : XO K mg "NoPrime" "NoProgram" false) (p3 : XO K mg "NoPrime" "Lossy" false) (p4 : XO K mg "NoPrime" "NoNumber" false) (p5 : XO K mg "NoPrime" "NoText" false) (p6 : XO K mg "NoPrime" "TooLong" false)
    (xmG : XM K mg "NoProgram" "LongError") (xdG : XD K mg "NoProgram") (xvG : XV K mg "NoProgram" "ValueError" true) (q1 : XO K mg "NoProgram" "NoPrime" false) (q2 : XO K mg "NoProgram" "NoProgram" true) (q3 : XO K mg "NoProgram" "Lossy" false) (q4 : XO K mg "NoProgram" "NoNumber" false) (q5 : XO K mg "NoProgram" "NoText" false) (q6 : XO K mg "NoProgram" "TooLong" false)
    (Gc : Fn P w K mg base 1 "_law_cell" ["script", "k"] rCell) (Gp : Fn P w K mg base 1 "_law_prime" ["cell"] rPrime) (Git : Fn P w K mg base 3 "_law_items" ["cells", "P", "many", "agains"] rItems) (Gla : Fn P w K mg base 21 "_law_alike" ["found", "due"] (rLAlike 20)) (Gpg : FnN P w K mg base 16 "program" ["P", "many", "items"] rProgram)
    (Gb : Fn P w K mg base 1 "_law_bent" ["cell", "many"] rBent) (Gw : Fn P w K mg base 1 "_law_with" ["items", "place", "cell", "bent"] rWith) : Fn P w K mg base 22 "law" ["script"] rLaw := by
  refine fnF F hm b sc_law (fun ds r h => by cases h; rfl) fun X hX hT ds r h => ?_
  cases h with
  | @mk s hs =>
    have cp50 : CPow 10 50 := ⟨by decide, by decide, by decide⟩
    have cp60 : CPow 10 60 := ⟨by decide, by decide, by decide⟩
    have t50 : (0 : Int) < 10 ^ (50 : Int).toNat := by decide
    have t60 : (0 : Int) < 10 ^ (60 : Int).toNat := by decide
    refine' sm_cons ?s1 ?_
    case' s1 => wtm_at "st"
    obtain ⟨hp, hp2⟩ := lawPrime_prm (lawCell s 0)
    generalize lawPrime (lawCell s 0) = p at *
    have p3' := hp.lo
    have p9 := hp.hi
    have pg1 : 1 < p := by omega
    refine' sm_cons ?s2 ?_
    case' s2 => wtm_at "st"
    obtain ⟨n, hn, n1, n2⟩ : ∃ n : Nat, 1 + lawCell s 1 % 3 = n ∧ 1 ≤ n ∧ n ≤ 3 := ⟨(1 + lawCell s 1 % 3).toNat, by omega, by omega, by omega⟩
    rw [hn]
    refine' sm_cons ?s3 ?_
    case' s3 => wtm_at "st"
    have y0 : 0 ≤ lawCell s 2 % 9 := Int.emod_nonneg _ (by decide)
    generalize hy : lawCell s 2 % 9 = y at *
    refine' sm_cons ?s4 ?_
    case' s4 => wtm_at "st"
    generalize lawCell s 3 = m at *
    refine' sm_cons (A1 := [.dat (.list (s.map .int)), .dat (.int p), .dat (.int n), .dat (.int y), .dat (.int m), .dat (tI (onesR n)), .un, .un, .un, .un, .un, .un, .un, .un, .un, .un]) ?s5 ?_
    case' s5 =>
      refine' setF hX hT 5 (by rfl) ?a1 (ev_eq ?a2 ?a3) (by rfl)
      case' a1 => decide +kernel
      case' a2 => wtm_at "ev"
      case a3 => rw [show ((n : Int) + 1).toNat = n + 1 by omega]
    obtain ⟨is0, hs0⟩ : ∃ i, i = lawItems p n 30 ((s.drop (4 : Int).toNat).take ((52 : Int).toNat - (4 : Int).toNat)) := ⟨_, rfl⟩
    have hg0 : Goods p n is0 := hs0 ▸ lawItems_good pg1 n1
    have hl0 : levs is0 ≤ 3 := hs0 ▸ lawItems_lev pg1 n1
    have hc0 : cnts is0 ≤ 24 := by
      rw [hs0]
      unfold lawItems
      rw [(itemsGo_good pg1 n1 _).2.2, List.length_take]
      have : (52 : Int).toNat - (4 : Int).toNat = 48 := by decide
      omega
    have hf : (Item.set 0 (onesR n)).Good p n := good_set.mpr ⟨Int.le_refl 0, by omega, List.length_replicate, fun z hz => by rw [(List.mem_replicate.mp hz).2]; omega⟩
    obtain ⟨its, hi⟩ : ∃ its, its = Item.set 0 (onesR n) :: is0 := ⟨_, rfl⟩
    have hg : Goods p n its := by
      rw [hi]
      refine goods_iff.mpr fun i hm => ?_
      rcases List.mem_cons.mp hm with rfl | hm
      · exact hf
      · exact goods_iff.mp hg0 i hm
    have hl : levs its ≤ 3 := by rw [hi, levs_cons, lev_set]; omega
    have hc : cnts its ≤ 25 := by rw [hi, cnts_cons, cnt_set]; omega
    have hlen : its.length ≤ 25 := Nat.le_trans (len_le_cnts its) hc
    refine' sm_cons (A1 := [.dat (.list (s.map .int)), .dat (.int p), .dat (.int n), .dat (.int y), .dat (.int m), .dat (tI (onesR n)), .dat (tIt its), .un, .un, .un, .un, .un, .un, .un, .un, .un]) ?s7 ?_
    case' s7 =>
      refine' setF hX hT 6 (by rfl) ?b1 (ev_eq (ev_bin (d1 := .tuple [.tuple [.str "set", .int 0, tI (onesR n)]]) (d2 := tIt is0) ?b2 (ev_eq (callF hX Git (by decide) ?b3 (ea_cons (ev_frz ?b4) ?b5) (rItems.mk (P := p) (by omega) (by omega) n1 n2 ?b6) ?b7) ?b8) (BinD.cat ?b9)) ?ba) (by rfl)
      case' b1 => decide +kernel
      case' b2 =>
        refine' ev_tup ?f1 ?f2
        case' f1 =>
          refine' ea_cons ?f3 ?f4
          case' f4 => exact ea_nil
          case' f3 =>
            refine' ev_tup ?f5 ?f6
            case' f5 =>
              refine' ea_cons ?f7 ?f8
              case' f7 => exact ev_str
              case' f8 => wtm_at "args"
            case f6 => rw [sizeLine_eq]; simp
        case f2 => rw [sizeLine_eq]; simp
      case' b3 => decide +kernel
      case' b4 => wtm_at "evl"
      case' b5 => wtm_at "args"
      case' b6 => simp; omega
      case' b7 => decide +kernel
      case b8 => rw [hs0]
      case b9 =>
        have := len_le_cnts is0
        rw [List.length_singleton, List.length_map, sizeLine_eq]
        omega
      case ba =>
        show C.dat (.tuple _) = C.dat (.tuple (its.map Item.enc))
        rw [hi, List.map_cons, enc_set]
        rfl
    refine' sm_cons (A1 := [.dat (.list (s.map .int)), .dat (.int p), .dat (.int n), .dat (.int y), .dat (.int m), .un, .dat (tIt its), .dat (.bool (decide (0 < y))), .un, .un, .un, .un, .un, .un, .un, .un]) ?s8 ?_
    case' s8 =>
      refine' s1_le (A1 := [.dat (.list (s.map .int)), .dat (.int p), .dat (.int n), .dat (.int y), .dat (.int m), .dat (tI (onesR n)), .dat (tIt its), .dat (.bool (decide (0 < y))), .un, .un, .un, .un, .un, .un, .un, .un]) ?s8a ?s8b
      case' s8a => wtm_at "st"
      case' s8b => wtm_at "le"
    refine' sm_cons ?s9 ?_
    case' s9 => wtm_at "st"
    refine' sm_cons ?s10 ?_
    case' s10 => wtm_at "st"
    -- as raw items
    obtain ⟨q1', q2', q3', q4', q5'⟩ := sames_ok its hg
    obtain ⟨rs, hrs⟩ : ∃ rs, rs = its.map Item.same := ⟨_, rfl⟩
    have rcons : rs = Raw.set 0 (onesR n) :: is0.map Item.same := by rw [hrs, hi, List.map_cons, same_set]
    rw [← hrs] at q1' q2' q3' q4' q5'
    have eI : tIt its = seqR false rs := by show PyData.tuple _ = PyData.tuple _; rw [q5']
    have rlen : rs.length = its.length := by rw [hrs, List.length_map]
    have rl3 : levRs rs ≤ 3 := by omega
    have rc25 : cntRs rs ≤ 25 := by omega
    have rd : ∀ {c8 c9 ca cb cc cd ce cf c7 : C} {q : Pos}, Ev X [.dat (.list (s.map .int)), .dat (.int p), .dat (.int n), .dat (.int y), .dat (.int m), .un, .dat (tIt its), c7, c8, c9, ca, cb, cc, cd, ce, cf] (.Name "items" q) (.dat (.tuple (rs.map Raw.enc))) := fun {c8 c9 ca cb cc cd ce cf c7 q} => ev_eq (show Ev X [.dat (.list (s.map .int)), .dat (.int p), .dat (.int n), .dat (.int y), .dat (.int m), .un, .dat (tIt its), c7, c8, c9, ca, cb, cc, cd, ce, cf] _ (.dat (tIt its)) by wtm_at "ev") (by rw [eI]; rfl)
    have one : ∀ {c8 c9 ca cb cc cd ce cf c7 : C} {q q2 q3 q4 : Pos} {j}, Ev X [.dat (.list (s.map .int)), .dat (.int p), .dat (.int n), .dat (.int y), .dat (.int m), .un, .dat (tIt its), c7, c8, c9, ca, cb, cc, cd, ce, cf] (.Subscript (.Name "items" q) (.Slice none (some (.Constant (.int 1) j q3)) none q2) q4) (.dat (.tuple [(Raw.set 0 (onesR n)).enc])) := fun {c8 c9 ca cb cc cd ce cf c7 q q2 q3 q4 j} => ev_eq (ev_takeT (xs := rs) (enc := Raw.enc) rd ev_int (by decide)) (by rw [rcons]; rfl)
    -- the boxes
    obtain ⟨bx, bx1, bx2, h9⟩ : ∃ bx : Int, (y ≠ 1 → bx = n) ∧ (y = 1 → ¬ (1 ≤ bx ∧ bx ≤ 3)) ∧ S1 X [.dat (.list (s.map .int)), .dat (.int p), .dat (.int n), .dat (.int y), .dat (.int m), .un, .dat (tIt its), .dat (.bool (decide (0 < y))), .dat (.int n), .dat (tIt its), .un, .un, .un, .un, .un, .un] ((defBody s_law).getD 9 (.Pass ⟨0, 0, 0, 0⟩)) (.nx [.dat (.list (s.map .int)), .dat (.int p), .dat (.int n), .dat (.int y), .dat (.int m), .un, .dat (tIt its), .dat (.bool (decide (0 < y))), .dat (.int bx), .dat (tIt its), .un, .un, .un, .un, .un, .un]) := by
      by_cases h : y = 1
      · have r0 : 0 ≤ m % 10 ^ (50 : Int).toNat := Int.emod_nonneg _ (by decide)
        refine ⟨if m % 4 = 0 then 0 else if m % 4 = 1 then 4 else if m % 4 = 2 then -1 - m % 10 ^ (50 : Int).toNat else 4 + m % 10 ^ (50 : Int).toNat, fun z => absurd h z, fun _ => ?_, ?_⟩
        · generalize m % 10 ^ (50 : Int).toNat = r at *
          rcases (show m % 4 = 0 ∨ m % 4 = 1 ∨ m % 4 = 2 ∨ m % 4 = 3 by omega) with z | z | z | z <;> rw [z] <;> (simp only [if_true, if_false, reduceIte, Int.reduceEq]; omega)
        · refine' s1_if (v := true) (et_eq ?c1 (decide_eq_true h)) (fun _ => ?c2) fun z => nomatch z
          case' c1 => wtm_at "test"
          case' c2 =>
            refine' sm_one (setF hX hT 8 (by rfl) ?c3 (ev_atD (k := true) (ds := [.int 0, .int 4, .int (-1 - m % 10 ^ (50 : Int).toNat), .int (4 + m % 10 ^ (50 : Int).toNat)]) (i := m % 4) (evs_new ?c4) ?c5 (.lit ?c6) (fun _ _ => rfl)) (by rfl))
            case' c3 => decide +kernel
            case' c4 => wtm_at "evl"
            case' c5 => wtm_at "ev"
            case c6 =>
              generalize m % 10 ^ (50 : Int).toNat = r at *
              rcases (show m % 4 = 0 ∨ m % 4 = 1 ∨ m % 4 = 2 ∨ m % 4 = 3 by omega) with z | z | z | z <;> rw [z] <;> rfl
      · refine ⟨n, fun _ => rfl, fun z => absurd z h, ?_⟩
        refine' s1_if (v := false) (et_eq ?c7 (decide_eq_false h)) (fun z => nomatch z) fun _ => sm_nil
        case' c7 => wtm_at "test"
    refine sm_cons h9 ?_
    clear h9
    -- what is handed
    obtain ⟨h1, h1a, h1b, h10⟩ : ∃ h1 : List Raw, (y ≠ 2 → h1 = rs) ∧ (y = 2 → 31 ≤ cntRs h1 ∧ cntRs h1 ≤ 1000 ∧ levRs h1 ≤ 3) ∧ S1 X [.dat (.list (s.map .int)), .dat (.int p), .dat (.int n), .dat (.int y), .dat (.int m), .un, .dat (tIt its), .dat (.bool (decide (0 < y))), .dat (.int bx), .dat (tIt its), .un, .un, .un, .un, .un, .un] ((defBody s_law).getD 10 (.Pass ⟨0, 0, 0, 0⟩)) (.nx [.dat (.list (s.map .int)), .dat (.int p), .dat (.int n), .dat (.int y), .dat (.int m), .un, .dat (tIt its), .dat (.bool (decide (0 < y))), .dat (.int bx), .dat (seqR false h1), .un, .un, .un, .un, .un, .un]) := by
      by_cases h : y = 2
      · refine ⟨List.replicate (31 - its.length) (Raw.set 0 (onesR n)) ++ rs, fun z => absurd h z, fun _ => ⟨?_, ?_, ?_⟩, ?_⟩
        · rw [cntRs_app, cntRs_rep, cntR_set]
          have := lenR_le rs
          omega
        · rw [cntRs_app, cntRs_rep, cntR_set]; omega
        · rw [levRs_app]
          have := levRs_rep (31 - its.length) (Raw.set 0 (onesR n))
          rw [levR_set] at this
          omega
        · refine' s1_if (v := true) (et_eq ?d1 (decide_eq_true h)) (fun _ => ?d2) fun z => nomatch z
          case' d1 => wtm_at "test"
          case' d2 =>
            refine' sm_one (setF hX hT 9 (by rfl) ?d3 (ev_eq (ev_bin (ev_repT (ds := [(Raw.set 0 (onesR n)).enc]) (n := 31 - (its.length : Int)) one (ev_eq ?d4 ?d5) (by simp) ?d6 ?d7 (by simp)) rd (BinD.cat ?d8)) ?d9) (by rfl))
            case' d3 => decide +kernel
            case' d4 => wtm_at "ev"
            case d5 => rw [List.length_map]
            case d6 => omega
            case d7 => omega
            case d8 => rw [rep_flat, List.length_replicate, List.length_map, sizeLine_eq]; omega
            case d9 =>
              rw [rep_flat, show (31 - (its.length : Int)).toNat = 31 - its.length by omega]
              show C.dat (.tuple _) = C.dat (.tuple _)
              rw [List.map_append, List.map_replicate]
      · refine ⟨rs, fun _ => rfl, fun z => absurd z h, ?_⟩
        rw [← eI]
        refine' s1_if (v := false) (et_eq ?da (decide_eq_false h)) (fun z => nomatch z) fun _ => sm_nil
        case' da => wtm_at "test"
    refine sm_cons h10 ?_
    clear h10
    obtain ⟨h2, h2a, h2b, h11⟩ : ∃ h2 : List Raw, (y ≠ 2 → h2 = rs) ∧ (y = 2 → 31 ≤ cntRs h2 ∧ cntRs h2 ≤ 1000 ∧ levRs h2 ≤ 3) ∧ S1 X [.dat (.list (s.map .int)), .dat (.int p), .dat (.int n), .dat (.int y), .dat (.int m), .un, .dat (tIt its), .dat (.bool (decide (0 < y))), .dat (.int bx), .dat (seqR false h1), .un, .un, .un, .un, .un, .un] ((defBody s_law).getD 11 (.Pass ⟨0, 0, 0, 0⟩)) (.nx [.dat (.list (s.map .int)), .dat (.int p), .dat (.int n), .dat (.int y), .dat (.int m), .un, .dat (tIt its), .dat (.bool (decide (0 < y))), .dat (.int bx), .dat (seqR false h2), .un, .un, .un, .un, .un, .un]) := by
      by_cases h : y = 2 ∧ 1 < its.length ∧ m % 2 = 1
      · refine ⟨rs ++ List.replicate 30 (Raw.set 0 (onesR n)), fun z => absurd h.1 z, fun _ => ⟨?_, ?_, ?_⟩, ?_⟩
        · rw [cntRs_app, cntRs_rep, cntR_set]
          have := lenR_le rs
          omega
        · rw [cntRs_app, cntRs_rep, cntR_set]; omega
        · rw [levRs_app]
          have := levRs_rep 30 (Raw.set 0 (onesR n))
          rw [levR_set] at this
          omega
        · refine' s1_if (v := true) (et_eq ?e0 ?e1) (fun _ => ?e2) fun z => nomatch z
          case' e0 => wtm_at "test"
          case e1 =>
            rw [List.length_map, decide_eq_true h.1, decide_eq_true h.2.2, decide_eq_true (show (1 : Int) < (its.length : Int) by omega)]
            rfl
          case' e2 =>
            refine' sm_one (setF hX hT 9 (by rfl) ?e3 (ev_eq (ev_bin rd (ev_repT (ds := [(Raw.set 0 (onesR n)).enc]) (n := 30) one ev_int (by simp) (by decide) (by decide) (by simp)) (BinD.cat ?e4)) ?e5) (by rfl))
            case' e3 => decide +kernel
            case e4 => rw [rep_flat, List.length_replicate, List.length_map, sizeLine_eq, show (30 : Int).toNat = 30 by decide]; omega
            case e5 =>
              rw [rep_flat, show (30 : Int).toNat = 30 by decide]
              show C.dat (.tuple _) = C.dat (.tuple _)
              rw [List.map_append, List.map_replicate]
      · refine ⟨h1, h1a, h1b, ?_⟩
        refine' s1_if (v := false) (et_eq ?e60 ?e6) (fun z => nomatch z) fun _ => sm_nil
        case' e60 => wtm_at "test"
        case e6 =>
          rw [List.length_map]
          by_cases z1 : y = 2
          · by_cases z2 : 1 < its.length
            · have z3 : ¬ m % 2 = 1 := fun z => h ⟨z1, z2, z⟩
              rw [decide_eq_false z3, Bool.and_false, Bool.and_false]
            · rw [decide_eq_false (show ¬ (1 : Int) < (its.length : Int) by omega), Bool.false_and, Bool.and_false]
          · rw [decide_eq_false z1, Bool.false_and]
    refine sm_cons h11 ?_
    clear h11
    obtain ⟨h3, h3a, h3b, h12⟩ : ∃ h3 : List Raw, (y = 0 → h3 = rs) ∧ (0 < y → ¬ ProgOk bx h3 ∧ cntRs h3 ≤ 1000 ∧ levRs h3 ≤ 6) ∧ S1 X [.dat (.list (s.map .int)), .dat (.int p), .dat (.int n), .dat (.int y), .dat (.int m), .un, .dat (tIt its), .dat (.bool (decide (0 < y))), .dat (.int bx), .dat (seqR false h2), .un, .un, .un, .un, .un, .un] ((defBody s_law).getD 12 (.Pass ⟨0, 0, 0, 0⟩)) (.nx [.dat (.list (s.map .int)), .dat (.int p), .dat (.int n), .dat (.int y), .dat (.int m), .un, .dat (tIt its), .dat (.bool (decide (0 < y))), .dat (.int bx), .dat (seqR false h3), .un, .un, .un, .un, .un, .un]) := by
      by_cases h : 2 < y
      · obtain ⟨at', hat⟩ : ∃ a : Nat, m / 7 % ((its.length : Int) + 1) = a := ⟨(m / 7 % ((its.length : Int) + 1)).toNat, by have := Int.emod_nonneg (m / 7) (show (its.length : Int) + 1 ≠ 0 by omega); omega⟩
        obtain ⟨b1, b2, b3⟩ := lawBent_bad (c := y - 3 + 6 * (m % 10 ^ (60 : Int).toNat)) (n := n)
        obtain ⟨w1, w2, w3⟩ := lawWith_bad (its := rs) (at' := at') (c := m / 11) (f0 := onesR n) b1 b2 b3 rl3 (by omega)
        refine ⟨lawWith rs at' (m / 11) (lawBent (y - 3 + 6 * (m % 10 ^ (60 : Int).toNat)) n) (onesR n), fun z => by omega, fun _ => ⟨by rw [bx1 (by omega)]; exact badRs_no w1, by omega, by omega⟩, ?_⟩
        refine' s1_if (v := true) (et_eq ?fz1 (decide_eq_true h)) (fun _ => ?fz2) fun z => nomatch z
        case' fz1 => wtm_at "test"
        case' fz2 =>
          have cm : CMul 6 (m % 10 ^ (60 : Int).toNat) := .inl (by omega)
          refine' sm_cons (A1 := [.dat (.list (s.map .int)), .dat (.int p), .dat (.int n), .dat (.int y), .dat (.int m), .un, .dat (tIt its), .dat (.bool (decide (0 < y))), .dat (.int bx), .dat (seqR false h2), .dat (lawBent (y - 3 + 6 * (m % 10 ^ (60 : Int).toNat)) n).enc, .un, .un, .un, .un, .un]) (setF hX hT 10 (by rfl) ?g1 (callF hX Gb (by decide) ?g2 ?g3 (rBent.mk n1 n2) ?g4) (by rfl)) ?_
          case' g1 => decide +kernel
          case' g2 => decide +kernel
          case' g3 => wtm_at "args"
          case' g4 => decide +kernel
          generalize lawBent (y - 3 + 6 * (m % 10 ^ (60 : Int).toNat)) n = bt at *
          have rw1 : rWith [seqR false rs, .int (at' : Nat), .int (m / 11), bt.enc] (.ok (.dat (seqR false (lawWith rs at' (m / 11) bt (onesR n))))) := by
            rw [rcons]
            exact rWith.mk (by rw [List.length_map]; have := len_le_cnts is0; omega)
          refine' sm_le (sm_one (setF hX hT 9 (by rfl) ?g5 (callF hX Gw (by decide) ?g6 (ea_cons rd (ea_cons (ev_eq ?g7 ?g8) (ea_cons ?g9 (ea_cons ?ga ea_nil)))) ?gb ?gc) (by rfl))) ?gd
          case' g5 => decide +kernel
          case' g6 => decide +kernel
          case' g7 => wtm_at "ev"
          case g8 => rw [List.length_map, hat]
          case' g9 => wtm_at "ev"
          case' ga => wtm_at "ev"
          case' gb => exact rw1
          case' gc => decide +kernel
          case' gd => wtm_at "le"
      · refine ⟨h2, fun z => h2a (by omega), fun z => ?_, ?_⟩
        · by_cases z1 : y = 1
          · have e := h2a (by omega)
            subst e
            exact ⟨fun ⟨a, b, _⟩ => bx2 z1 ⟨a, b⟩, by omega, by omega⟩
          · obtain ⟨a, b, c⟩ := h2b (by omega)
            exact ⟨fun ⟨_, _, q, _⟩ => by omega, b, by omega⟩
        · refine' s1_if (v := false) (et_eq ?ge (decide_eq_false h)) (fun z => nomatch z) fun _ => sm_nil
          case' ge => wtm_at "test"
    refine sm_cons h12 ?_
    clear h12
    refine' sm_cons ?i1 ?_
    case' i1 => wtm_at "st"
    obtain ⟨sz, szn, h14⟩ : ∃ sz : Int, (sz = p ∨ ¬ Prm sz) ∧ S1 X [.dat (.list (s.map .int)), .dat (.int p), .dat (.int n), .dat (.int y), .dat (.int m), .un, .dat (tIt its), .dat (.bool (decide (0 < y))), .dat (.int bx), .dat (seqR false h3), .un, .dat (.int p), .un, .un, .un, .un] ((defBody s_law).getD 14 (.Pass ⟨0, 0, 0, 0⟩)) (.nx [.un, .dat (.int p), .un, .un, .un, .un, .dat (tIt its), .dat (.bool (decide (0 < y))), .dat (.int bx), .dat (seqR false h3), .un, .dat (.int sz), .un, .un, .un, .un]) := by
      by_cases h : lawCell s 2 / 9 % 4 = 1
      · have cm : CMul 2 (m % 10 ^ (50 : Int).toNat) := .inl (by omega)
        obtain ⟨k, hk, k10⟩ : ∃ k : Nat, m % 10 = k ∧ k < 10 := ⟨(m % 10).toNat, by omega, by omega⟩
        have k0 : k < (oddSizes m).length := by show k < 10; exact k10
        refine ⟨(oddSizes m)[k], .inr (oddSizes_no (List.getElem_mem k0)), ?_⟩
        refine' s1_le (A1 := [.dat (.list (s.map .int)), .dat (.int p), .dat (.int n), .dat (.int y), .dat (.int m), .un, .dat (tIt its), .dat (.bool (decide (0 < y))), .dat (.int bx), .dat (seqR false h3), .un, .dat (.int ((oddSizes m)[k])), .un, .un, .un, .un]) (s1_if (v := true) (et_eq ?j1 (decide_eq_true h)) (fun _ => ?j2) fun z => nomatch z) ?j3
        case' j1 => wtm_at "test"
        case' j2 =>
          refine' sm_one (setF hX hT 11 (by rfl) ?j4 (ev_atD (k := true) (ds := (oddSizes m).map .int) (i := (k : Int)) (evs_new ?j5) (ev_eq ?j6 ?j6b) (.lit ?j7) (fun _ _ => rfl)) (by rfl))
          case' j4 => decide +kernel
          case' j5 => exact (show Ev X _ _ (.own (.lst [.int 4, .int 9, .int 15, .int 1, .int 2, .int 0, .int (-7), .int 10007, .int 9999, .int (2 * (m % 10 ^ (50 : Int).toNat))])) by wtm_at "evl")
          case' j6 => wtm_at "ev"
          case j6b => rw [hk]
          case j7 =>
            refine atI_nat ?_
            rw [List.getElem?_map, List.getElem?_eq_getElem (by show k < 10; omega)]
            rfl
        case' j3 => wtm_at "le"
      · refine ⟨p, .inl rfl, ?_⟩
        refine' s1_le (A1 := [.dat (.list (s.map .int)), .dat (.int p), .dat (.int n), .dat (.int y), .dat (.int m), .un, .dat (tIt its), .dat (.bool (decide (0 < y))), .dat (.int bx), .dat (seqR false h3), .un, .dat (.int p), .un, .un, .un, .un]) (s1_if (v := false) (et_eq ?j8 (decide_eq_false h)) (fun z => nomatch z) fun _ => sm_nil) ?j9
        case' j8 => wtm_at "test"
        case' j9 => wtm_at "le"
    refine sm_cons h14 ?_
    clear h14
    refine' sm_cons ?k1 ?_
    case' k1 => wtm_at "st"
    refine' sm_cons (A1 := [.un, .dat (.int p), .un, .un, .un, .un, .dat (tIt its), .dat (.bool (decide (0 < y))), .dat (.int bx), .dat (seqR false h3), .un, .dat (.int sz), .dat .none, .dat (.list ([false, false].map .bool)), .un, .un]) ?k2 ?_
    case' k2 =>
      refine' setF hX hT 13 (by rfl) ?k3 (ev_frz ?k4) (by rfl)
      case' k3 => decide +kernel
      case' k4 => wtm_at "evl"
    refine' sm_cons ?k5 ?_
    case' k5 => wtm_at "st"
    have cQ : ∀ {A : List C} {e1 : Expr} {q : Pos} {x y : List Bool} {e2 : Expr}, Ev X A e1 (.dat (.list (x.map .bool))) → Ev X A e2 (.dat (.list (y.map .bool))) → Ev X A (.Compare e1 [.Eq] [e2] q) (.dat (.bool (decide (x = y)))) := fun h1 h2 => ev_cmpR h1 h2 (cmpEq hX encB.lst (by decide))
    -- what is refused
    have htry : ∀ (z : Str) (v1 v2 : Bool), XM K mg z "LongError" → XD K mg z → XV K mg z "ValueError" true → XO K mg z "NoPrime" v1 → XO K mg z "NoProgram" v2 → XO K mg z "Lossy" false → XO K mg z "NoNumber" false → XO K mg z "NoText" false → XO K mg z "TooLong" false → rProgram [.int sz, .int bx, seqR false h3] (.ex z) →
        S1 X [.un, .dat (.int p), .un, .un, .un, .un, .dat (tIt its), .dat (.bool (decide (0 < y))), .dat (.int bx), .dat (seqR false h3), .un, .dat (.int sz), .dat .none, .dat (.list ([false, false].map .bool)), .dat (.bool false), .un] ((defBody s_law).getD 18 (.Pass ⟨0, 0, 0, 0⟩))
          (.nx [.un, .dat (.int p), .un, .un, .un, .un, .dat (tIt its), .dat (.bool (decide (0 < y))), .dat (.int bx), .dat (seqR false h3), .un, .dat (.int sz), .dat .none, .dat (.list ([v1, v2].map .bool)), .dat (.bool false), .un]) := by
      intro z v1 v2 xm xd xv o1 o2 o3 o4 o5 o6 hr
      obtain ⟨cD, cL, gD, gL, hex⟩ := xm
      obtain ⟨cD', gD', hE⟩ := xd
      cases gD.symm.trans gD'
      obtain ⟨cD', gD', hV⟩ := xv
      cases gD.symm.trans gD'
      obtain ⟨cD', c1, gD', g1, k1⟩ := o1
      cases gD.symm.trans gD'
      obtain ⟨cD', c2, gD', g2, k2⟩ := o2
      cases gD.symm.trans gD'
      obtain ⟨cD', c3, gD', g3, k3⟩ := o3
      cases gD.symm.trans gD'
      obtain ⟨cD', c4, gD', g4, k4⟩ := o4
      cases gD.symm.trans gD'
      obtain ⟨cD', c5, gD', g5, k5⟩ := o5
      cases gD.symm.trans gD'
      obtain ⟨cD', c6, gD', g6, k6⟩ := o6
      cases gD.symm.trans gD'
      refine' s1_le (A1 := ([.un, .dat (.int p), .un, .un, .un, .un, .dat (tIt its), .dat (.bool (decide (0 < y))), .dat (.int bx), .dat (seqR false h3), .un, .dat (.int sz), .dat .none, .dat (.list ([v1, v2].map .bool)), .dat (.bool false), .un] : List C).set 15 .un) (tryX hX hT (i := 15) (cl := cL) (D := cD) (z := z) (A1 := [.un, .dat (.int p), .un, .un, .un, .un, .dat (tIt its), .dat (.bool (decide (0 < y))), .dat (.int bx), .dat (seqR false h3), .un, .dat (.int sz), .dat .none, .dat (.list ([false, false].map .bool)), .dat (.bool false), .un]) (A2 := [.un, .dat (.int p), .un, .un, .un, .un, .dat (tIt its), .dat (.bool (decide (0 < y))), .dat (.int bx), .dat (seqR false h3), .un, .dat (.int sz), .dat .none, .dat (.list ([v1, v2].map .bool)), .dat (.bool false), .un]) ?v1 ?v2 ?v3 gL ?v4 gD hex hE rfl (fun Y hY hTY => ?v5) (fun Y ad hS => ?v6)) ?v7
      case' v7 => exact LeA.refl
      case' v1 => rfl
      case' v2 => decide +kernel
      case' v3 => decide +kernel
      case' v4 => decide +kernel
      case' v5 =>
        refine' sm_end (s1_setX 12 hY.ndX ?w2 ?w3 (callXF hY Gpg.fn (by decide) ?w4 ?w5 hr ?w6) (hf := .inl (hTY.fn _)))
        case' w2 => rw [hY.eN]; rfl
        case' w3 => rw [hY.eS]; decide +kernel
        case' w4 => decide +kernel
        case' w5 => wtm_at "args"
        case' w6 => decide +kernel
      case' v6 =>
        have d1 : Vis (defScope s_law) "e" := by decide +kernel
        have d2 : GlS (defScope s_law) "isinstance" := by decide +kernel
        have kk := none_of (K := K) (D := cD) (cs := [c3, c4, c5, c6]) ⟨k3, k4, k5, k6, trivial⟩
        refine' sm_cons (A1 := [.un, .dat (.int p), .un, .un, .un, .un, .dat (tIt its), .dat (.bool (decide (0 < y))), .dat (.int bx), .dat (seqR false h3), .un, .dat (.int sz), .dat .none, .dat (.list ([v1, v2].map .bool)), .dat (.bool false), .rf ad]) (setS hS 13 (by rfl) (by decide +kernel) (ev_frz (ev_lst (ea_cons (isE_own hS 15 rfl rfl d1 (by decide +kernel) (by decide +kernel) d2 mi (by decide +kernel) g1 (by decide +kernel) k1) (ea_cons (isE_own hS 15 rfl rfl d1 (by decide +kernel) (by decide +kernel) d2 mi (by decide +kernel) g2 (by decide +kernel) k2) ea_nil)) (by rw [sizeLine_eq]; simp))) (by rfl)) ?_
        refine' sm_le (sm_one (setS hS 14 (by rfl) (by decide +kernel) (ev_or (v := false) (u := false) (isE_tup hS 15 rfl rfl d1 (by decide +kernel) (by decide +kernel) d2 mi (clsA_cons hS (by decide +kernel) g3 (by decide +kernel) (clsA_cons hS (by decide +kernel) g4 (by decide +kernel) (clsA_cons hS (by decide +kernel) g5 (by decide +kernel) (clsA_cons hS (by decide +kernel) g6 (by decide +kernel) clsA_nil)))) (by show 4 ≤ sizeLine; decide +kernel) kk) fun _ => ev_one (ev_eq (ev_not (isE_ty hS 15 (T := "ValueError") rfl rfl d1 (by decide +kernel) (by decide +kernel) d2 mi (by decide +kernel) mv (by decide +kernel) (by decide) (by decide) hV)) rfl)) (by rfl))) ?v9
        case' v9 => exact LeA.cons LeC.refl (LeA.cons LeC.refl (LeA.cons LeC.refl (LeA.cons LeC.refl (LeA.cons LeC.refl (LeA.cons LeC.refl (LeA.cons LeC.refl (LeA.cons LeC.refl (LeA.cons LeC.refl (LeA.cons LeC.refl (LeA.cons LeC.refl (LeA.cons LeC.refl (LeA.cons LeC.refl (LeA.cons LeC.refl (LeA.cons LeC.refl (LeA.cons LeC.un LeA.nil)))))))))))))))
    by_cases hsz : sz = p
    · subst hsz
      by_cases hy0 : 0 < y
      · obtain ⟨nb, nc, nl⟩ := h3b hy0
        refine sm_cons (htry "NoProgram" false true xmG xdG xvG q1 q2 q3 q4 q5 q6 (.no hp nb nl nc)) ?_
        refine' sm_cons (s1_if (v := false) ?l1 (fun z => nomatch z) fun _ => sm_nil) ?_
        case' l1 => wtm_at "test"
        refine' sm_cons (s1_if (v := false) (et_eq ?l2 ?l3) (fun z => nomatch z) fun _ => sm_nil) ?_
        case' l2 => wtm_at "test"
        case l3 => simp
        refine' sm_end (s1_if (v := true) (et_eq ?l4 (decide_eq_true hy0)) (fun _ => ?l5) fun z => nomatch z)
        case' l4 => wtm_at "test"
        case' l5 =>
          refine' sm_end (s1_retE (ev_eq (cQ (x := [false, true]) (y := [false, true]) ?l6 (ev_frz ?l7)) ?l8) rfl)
          case' l6 => exact (show Ev X [.un, .dat (.int sz), .un, .un, .un, .un, .dat (tIt its), .dat (.bool (decide (0 < y))), .dat (.int bx), .dat (seqR false h3), .un, .dat (.int sz), .dat .none, .dat (.list ([false, true].map .bool)), .dat (.bool false), .un] _ (.dat (.list ([false, true].map .bool))) by wtm_at "ev")
          case' l7 => wtm_at "evl"
          case l8 => rfl
      · have y00 : y = 0 := by omega
        have eh := h3a y00
        have ebx := bx1 (by omega)
        subst eh
        subst ebx
        have rP := rProgram.mk (k := false) hp n1 n2 q2' (by omega) (by omega)
        rw [q1'] at rP
        have dI : (tIt its).depth ≤ 20 := by
          simp only [PyData.depth]
          have := dep_encs its
          omega
        have rA := rLAlike.mk (d := 20) (tup_its (show n ≤ 100 by omega) hg (show cnts its ≤ 1000 by omega)) dI
        refine' sm_cons (A1 := [.un, .dat (.int sz), .un, .un, .un, .un, .dat (tIt its), .dat (.bool (decide (0 < y))), .dat (.int n), .dat (seqR false h3), .un, .dat (.int sz), .dat (tIt its), .dat (.list ([false, false].map .bool)), .dat (.bool false), .un]) ?n1 ?_
        case' n1 =>
          obtain ⟨cD, cL, gD, gL, hex⟩ := xmP
          refine' tryN hX hT (i := 15) (cl := cL) (o := .nx _) ?n2 ?n3 ?n4 gL ?n5 (fun z A1 q => nomatch q) (fun Y hY hTY => ?n6)
          case' n2 => rfl
          case' n3 => decide +kernel
          case' n4 => decide +kernel
          case' n5 => decide +kernel
          case' n6 =>
            refine' sm_one (setF hY hTY 12 (by rfl) ?n7 (callF hY Gpg.fn (by decide) ?n8 ?n9 rP ?na) (by rfl))
            case' n7 => decide +kernel
            case' n8 => decide +kernel
            case' n9 => wtm_at "args"
            case' na => decide +kernel
        refine' sm_cons (s1_if (v := false) ?o1 (fun z => nomatch z) fun _ => sm_nil) ?_
        case' o1 => wtm_at "test"
        refine' sm_cons (s1_if (v := false) (et_eq ?o2 ?o3) (fun z => nomatch z) fun _ => sm_nil) ?_
        case' o2 => wtm_at "test"
        case o3 => simp
        refine' sm_cons (s1_if (v := false) (et_eq ?o4 (decide_eq_false hy0)) (fun z => nomatch z) fun _ => sm_nil) ?_
        case' o4 => wtm_at "test"
        refine' sm_end (s1_retE (ev_and (v := true) (u := true) (ev_eq (cQ (x := [false, false]) (y := [false, false]) ?o5 (ev_frz ?o6)) ?o7) fun _ => ev_one (callF hX Gla (by decide) ?o8 ?o9 rA ?oa)) rfl)
        case' o5 => exact (show Ev X [.un, .dat (.int sz), .un, .un, .un, .un, .dat (tIt its), .dat (.bool (decide (0 < y))), .dat (.int n), .dat (seqR false h3), .un, .dat (.int sz), .dat (tIt its), .dat (.list ([false, false].map .bool)), .dat (.bool false), .un] _ (.dat (.list ([false, false].map .bool))) by wtm_at "ev")
        case' o6 => wtm_at "evl"
        case o7 => rfl
        case' o8 => decide +kernel
        case' o9 => wtm_at "args"
        case' oa => decide +kernel
    · have hnp : ¬ Prm sz := by
        rcases szn with z | z
        · exact absurd z hsz
        · exact z
      refine sm_cons (htry "NoPrime" true false xmP xdP xvP p1 p2 p3 p4 p5 p6 (.noP hnp)) ?_
      refine' sm_cons (s1_if (v := false) ?r1 (fun z => nomatch z) fun _ => sm_nil) ?_
      case' r1 => wtm_at "test"
      refine' sm_end (s1_if (v := true) (et_eq ?r2 ?r3) (fun _ => ?r4) fun z => nomatch z)
      case' r2 => wtm_at "test"
      case r3 => simp [hsz]
      case' r4 =>
        refine' sm_end (s1_retE (ev_eq (cQ (x := [true, false]) (y := [true, false]) ?r5 (ev_frz ?r6)) ?r7) rfl)
        case' r5 => exact (show Ev X [.un, .dat (.int p), .un, .un, .un, .un, .dat (tIt its), .dat (.bool (decide (0 < y))), .dat (.int bx), .dat (seqR false h3), .un, .dat (.int sz), .dat .none, .dat (.list ([true, false].map .bool)), .dat (.bool false), .un] _ (.dat (.list ([true, false].map .bool))) by wtm_at "ev")
        case' r6 => wtm_at "evl"
        case r7 => rfl
end
end W

namespace W
open PySem PySem.Spec PyProof.Rows L2 LR
def spL (K : PySem.W.Frag) : L2.Sp := fun vs H Q _ => ∃ (a : Addr) (ns : List Int), vs = [.ref a] ∧ SqL K H a (ns.map V.int) ∧ ns.length ≤ 63 ∧ ∀ H', Q (.bl true) H'
theorem all_mk {l : PySem.W.OpenLaw} {w : World} {K : PySem.W.Frag} {h : Heap} {mg : Str → Option Value} {fa : Addr} (X : K.In h) (G : h.Ns mainGlobals mg) (hfa : mg "law" = some (.ref fa))
    {f_on : Addr} {oc_on kV_on dc_on pm_on cd_on ct_on : Value} {od_on an_on : Option Addr} {sl_on : Array (Option Value)}
    (a_on : PySem.W.nsIn K mainGlobals "on" = some (some (.ref f_on))) (l_on : K.lookup f_on = some ⟨oc_on, od_on, .func (PySem.W.fnOf "on" "on" (defArgs s_on) (defBody s_on) (defScope s_on) .none kV_on dc_on pm_on an_on cd_on ct_on), sl_on⟩) (c_on : PySem.W.codeIn K cd_on "on" = true) (k_on : PySem.W.keepIn K (.ref f_on) = true)
    {f__law_cell : Addr} {oc__law_cell kV__law_cell dc__law_cell pm__law_cell cd__law_cell ct__law_cell : Value} {od__law_cell an__law_cell : Option Addr} {sl__law_cell : Array (Option Value)}
    (a__law_cell : PySem.W.nsIn K mainGlobals "_law_cell" = some (some (.ref f__law_cell))) (l__law_cell : K.lookup f__law_cell = some ⟨oc__law_cell, od__law_cell, .func (PySem.W.fnOf "_law_cell" "_law_cell" (defArgs s__law_cell) (defBody s__law_cell) (defScope s__law_cell) .none kV__law_cell dc__law_cell pm__law_cell an__law_cell cd__law_cell ct__law_cell), sl__law_cell⟩) (c__law_cell : PySem.W.codeIn K cd__law_cell "_law_cell" = true) (k__law_cell : PySem.W.keepIn K (.ref f__law_cell) = true)
    {f__law_prime : Addr} {oc__law_prime kV__law_prime dc__law_prime pm__law_prime cd__law_prime ct__law_prime : Value} {od__law_prime an__law_prime : Option Addr} {sl__law_prime : Array (Option Value)}
    (a__law_prime : PySem.W.nsIn K mainGlobals "_law_prime" = some (some (.ref f__law_prime))) (l__law_prime : K.lookup f__law_prime = some ⟨oc__law_prime, od__law_prime, .func (PySem.W.fnOf "_law_prime" "_law_prime" (defArgs s__law_prime) (defBody s__law_prime) (defScope s__law_prime) .none kV__law_prime dc__law_prime pm__law_prime an__law_prime cd__law_prime ct__law_prime), sl__law_prime⟩) (c__law_prime : PySem.W.codeIn K cd__law_prime "_law_prime" = true) (k__law_prime : PySem.W.keepIn K (.ref f__law_prime) = true)
    {f__law_digits : Addr} {oc__law_digits kV__law_digits dc__law_digits pm__law_digits cd__law_digits ct__law_digits : Value} {od__law_digits an__law_digits : Option Addr} {sl__law_digits : Array (Option Value)}
    (a__law_digits : PySem.W.nsIn K mainGlobals "_law_digits" = some (some (.ref f__law_digits))) (l__law_digits : K.lookup f__law_digits = some ⟨oc__law_digits, od__law_digits, .func (PySem.W.fnOf "_law_digits" "_law_digits" (defArgs s__law_digits) (defBody s__law_digits) (defScope s__law_digits) .none kV__law_digits dc__law_digits pm__law_digits an__law_digits cd__law_digits ct__law_digits), sl__law_digits⟩) (c__law_digits : PySem.W.codeIn K cd__law_digits "_law_digits" = true) (k__law_digits : PySem.W.keepIn K (.ref f__law_digits) = true)
    {f__law_count : Addr} {oc__law_count kV__law_count dc__law_count pm__law_count cd__law_count ct__law_count : Value} {od__law_count an__law_count : Option Addr} {sl__law_count : Array (Option Value)}
    (a__law_count : PySem.W.nsIn K mainGlobals "_law_count" = some (some (.ref f__law_count))) (l__law_count : K.lookup f__law_count = some ⟨oc__law_count, od__law_count, .func (PySem.W.fnOf "_law_count" "_law_count" (defArgs s__law_count) (defBody s__law_count) (defScope s__law_count) .none kV__law_count dc__law_count pm__law_count an__law_count cd__law_count ct__law_count), sl__law_count⟩) (c__law_count : PySem.W.codeIn K cd__law_count "_law_count" = true) (k__law_count : PySem.W.keepIn K (.ref f__law_count) = true)
    {f__law_set : Addr} {oc__law_set kV__law_set dc__law_set pm__law_set cd__law_set ct__law_set : Value} {od__law_set an__law_set : Option Addr} {sl__law_set : Array (Option Value)}
    (a__law_set : PySem.W.nsIn K mainGlobals "_law_set" = some (some (.ref f__law_set))) (l__law_set : K.lookup f__law_set = some ⟨oc__law_set, od__law_set, .func (PySem.W.fnOf "_law_set" "_law_set" (defArgs s__law_set) (defBody s__law_set) (defScope s__law_set) .none kV__law_set dc__law_set pm__law_set an__law_set cd__law_set ct__law_set), sl__law_set⟩) (c__law_set : PySem.W.codeIn K cd__law_set "_law_set" = true) (k__law_set : PySem.W.keepIn K (.ref f__law_set) = true)
    {f__law_items : Addr} {oc__law_items kV__law_items dc__law_items pm__law_items cd__law_items ct__law_items : Value} {od__law_items an__law_items : Option Addr} {sl__law_items : Array (Option Value)}
    (a__law_items : PySem.W.nsIn K mainGlobals "_law_items" = some (some (.ref f__law_items))) (l__law_items : K.lookup f__law_items = some ⟨oc__law_items, od__law_items, .func (PySem.W.fnOf "_law_items" "_law_items" (defArgs s__law_items) (defBody s__law_items) (defScope s__law_items) .none kV__law_items dc__law_items pm__law_items an__law_items cd__law_items ct__law_items), sl__law_items⟩) (c__law_items : PySem.W.codeIn K cd__law_items "_law_items" = true) (k__law_items : PySem.W.keepIn K (.ref f__law_items) = true)
    {f_items_in : Addr} {oc_items_in kV_items_in dc_items_in pm_items_in cd_items_in ct_items_in : Value} {od_items_in an_items_in : Option Addr} {sl_items_in : Array (Option Value)}
    (a_items_in : PySem.W.nsIn K mainGlobals "items_in" = some (some (.ref f_items_in))) (l_items_in : K.lookup f_items_in = some ⟨oc_items_in, od_items_in, .func (PySem.W.fnOf "items_in" "items_in" (defArgs s_items_in) (defBody s_items_in) (defScope s_items_in) .none kV_items_in dc_items_in pm_items_in an_items_in cd_items_in ct_items_in), sl_items_in⟩) (c_items_in : PySem.W.codeIn K cd_items_in "items_in" = true) (k_items_in : PySem.W.keepIn K (.ref f_items_in) = true)
    {f_agains_deep : Addr} {oc_agains_deep kV_agains_deep dc_agains_deep pm_agains_deep cd_agains_deep ct_agains_deep : Value} {od_agains_deep an_agains_deep : Option Addr} {sl_agains_deep : Array (Option Value)}
    (a_agains_deep : PySem.W.nsIn K mainGlobals "agains_deep" = some (some (.ref f_agains_deep))) (l_agains_deep : K.lookup f_agains_deep = some ⟨oc_agains_deep, od_agains_deep, .func (PySem.W.fnOf "agains_deep" "agains_deep" (defArgs s_agains_deep) (defBody s_agains_deep) (defScope s_agains_deep) .none kV_agains_deep dc_agains_deep pm_agains_deep an_agains_deep cd_agains_deep ct_agains_deep), sl_agains_deep⟩) (c_agains_deep : PySem.W.codeIn K cd_agains_deep "agains_deep" = true) (k_agains_deep : PySem.W.keepIn K (.ref f_agains_deep) = true)
    {f_items_of : Addr} {oc_items_of kV_items_of dc_items_of pm_items_of cd_items_of ct_items_of : Value} {od_items_of an_items_of : Option Addr} {sl_items_of : Array (Option Value)}
    (a_items_of : PySem.W.nsIn K mainGlobals "items_of" = some (some (.ref f_items_of))) (l_items_of : K.lookup f_items_of = some ⟨oc_items_of, od_items_of, .func (PySem.W.fnOf "items_of" "items_of" (defArgs s_items_of) (defBody s_items_of) (defScope s_items_of) .none kV_items_of dc_items_of pm_items_of an_items_of cd_items_of ct_items_of), sl_items_of⟩) (c_items_of : PySem.W.codeIn K cd_items_of "items_of" = true) (k_items_of : PySem.W.keepIn K (.ref f_items_of) = true)
    {f_item_of : Addr} {oc_item_of kV_item_of dc_item_of pm_item_of cd_item_of ct_item_of : Value} {od_item_of an_item_of : Option Addr} {sl_item_of : Array (Option Value)}
    (a_item_of : PySem.W.nsIn K mainGlobals "item_of" = some (some (.ref f_item_of))) (l_item_of : K.lookup f_item_of = some ⟨oc_item_of, od_item_of, .func (PySem.W.fnOf "item_of" "item_of" (defArgs s_item_of) (defBody s_item_of) (defScope s_item_of) .none kV_item_of dc_item_of pm_item_of an_item_of cd_item_of ct_item_of), sl_item_of⟩) (c_item_of : PySem.W.codeIn K cd_item_of "item_of" = true) (k_item_of : PySem.W.keepIn K (.ref f_item_of) = true)
    {f_is_whole : Addr} {oc_is_whole kV_is_whole dc_is_whole pm_is_whole cd_is_whole ct_is_whole : Value} {od_is_whole an_is_whole : Option Addr} {sl_is_whole : Array (Option Value)}
    (a_is_whole : PySem.W.nsIn K mainGlobals "is_whole" = some (some (.ref f_is_whole))) (l_is_whole : K.lookup f_is_whole = some ⟨oc_is_whole, od_is_whole, .func (PySem.W.fnOf "is_whole" "is_whole" (defArgs s_is_whole) (defBody s_is_whole) (defScope s_is_whole) .none kV_is_whole dc_is_whole pm_is_whole an_is_whole cd_is_whole ct_is_whole), sl_is_whole⟩) (c_is_whole : PySem.W.codeIn K cd_is_whole "is_whole" = true) (k_is_whole : PySem.W.keepIn K (.ref f_is_whole) = true)
    {f_prime : Addr} {oc_prime kV_prime dc_prime pm_prime cd_prime ct_prime : Value} {od_prime an_prime : Option Addr} {sl_prime : Array (Option Value)}
    (a_prime : PySem.W.nsIn K mainGlobals "prime" = some (some (.ref f_prime))) (l_prime : K.lookup f_prime = some ⟨oc_prime, od_prime, .func (PySem.W.fnOf "prime" "prime" (defArgs s_prime) (defBody s_prime) (defScope s_prime) .none kV_prime dc_prime pm_prime an_prime cd_prime ct_prime), sl_prime⟩) (c_prime : PySem.W.codeIn K cd_prime "prime" = true) (k_prime : PySem.W.keepIn K (.ref f_prime) = true)
    {f_program : Addr} {oc_program kV_program dc_program pm_program cd_program ct_program : Value} {od_program an_program : Option Addr} {sl_program : Array (Option Value)}
    (a_program : PySem.W.nsIn K mainGlobals "program" = some (some (.ref f_program))) (l_program : K.lookup f_program = some ⟨oc_program, od_program, .func (PySem.W.fnOf "program" "program" (defArgs s_program) (defBody s_program) (defScope s_program) .none kV_program dc_program pm_program an_program cd_program ct_program), sl_program⟩) (c_program : PySem.W.codeIn K cd_program "program" = true) (k_program : PySem.W.keepIn K (.ref f_program) = true)
    {f__law_alike : Addr} {oc__law_alike kV__law_alike dc__law_alike pm__law_alike cd__law_alike ct__law_alike : Value} {od__law_alike an__law_alike : Option Addr} {sl__law_alike : Array (Option Value)}
    (a__law_alike : PySem.W.nsIn K mainGlobals "_law_alike" = some (some (.ref f__law_alike))) (l__law_alike : K.lookup f__law_alike = some ⟨oc__law_alike, od__law_alike, .func (PySem.W.fnOf "_law_alike" "_law_alike" (defArgs s__law_alike) (defBody s__law_alike) (defScope s__law_alike) .none kV__law_alike dc__law_alike pm__law_alike an__law_alike cd__law_alike ct__law_alike), sl__law_alike⟩) (c__law_alike : PySem.W.codeIn K cd__law_alike "_law_alike" = true) (k__law_alike : PySem.W.keepIn K (.ref f__law_alike) = true)
    {f__law_bent : Addr} {oc__law_bent kV__law_bent dc__law_bent pm__law_bent cd__law_bent ct__law_bent : Value} {od__law_bent an__law_bent : Option Addr} {sl__law_bent : Array (Option Value)}
    (a__law_bent : PySem.W.nsIn K mainGlobals "_law_bent" = some (some (.ref f__law_bent))) (l__law_bent : K.lookup f__law_bent = some ⟨oc__law_bent, od__law_bent, .func (PySem.W.fnOf "_law_bent" "_law_bent" (defArgs s__law_bent) (defBody s__law_bent) (defScope s__law_bent) .none kV__law_bent dc__law_bent pm__law_bent an__law_bent cd__law_bent ct__law_bent), sl__law_bent⟩) (c__law_bent : PySem.W.codeIn K cd__law_bent "_law_bent" = true) (k__law_bent : PySem.W.keepIn K (.ref f__law_bent) = true)
    {f__law_with : Addr} {oc__law_with kV__law_with dc__law_with pm__law_with cd__law_with ct__law_with : Value} {od__law_with an__law_with : Option Addr} {sl__law_with : Array (Option Value)}
    (a__law_with : PySem.W.nsIn K mainGlobals "_law_with" = some (some (.ref f__law_with))) (l__law_with : K.lookup f__law_with = some ⟨oc__law_with, od__law_with, .func (PySem.W.fnOf "_law_with" "_law_with" (defArgs s__law_with) (defBody s__law_with) (defScope s__law_with) .none kV__law_with dc__law_with pm__law_with an__law_with cd__law_with ct__law_with), sl__law_with⟩) (c__law_with : PySem.W.codeIn K cd__law_with "_law_with" = true) (k__law_with : PySem.W.keepIn K (.ref f__law_with) = true)
    {f_law : Addr} {oc_law kV_law dc_law pm_law cd_law ct_law : Value} {od_law an_law : Option Addr} {sl_law : Array (Option Value)}
    (a_law : PySem.W.nsIn K mainGlobals "law" = some (some (.ref f_law))) (l_law : K.lookup f_law = some ⟨oc_law, od_law, .func (PySem.W.fnOf "law" "law" (defArgs s_law) (defBody s_law) (defScope s_law) .none kV_law dc_law pm_law an_law cd_law ct_law), sl_law⟩) (c_law : PySem.W.codeIn K cd_law "law" = true) (k_law : PySem.W.keepIn K (.ref f_law) = true)
    (z_ValueError : PySem.W.nsIn K mainGlobals "ValueError" = some none)
    (z_any : PySem.W.nsIn K mainGlobals "any" = some none)
    (z_bool : PySem.W.nsIn K mainGlobals "bool" = some none)
    (z_int : PySem.W.nsIn K mainGlobals "int" = some none)
    (z_isinstance : PySem.W.nsIn K mainGlobals "isinstance" = some none)
    (z_len : PySem.W.nsIn K mainGlobals "len" = some none)
    (z_max : PySem.W.nsIn K mainGlobals "max" = some none)
    (z_min : PySem.W.nsIn K mainGlobals "min" = some none)
    (z_range : PySem.W.nsIn K mainGlobals "range" = some none)
    (z_str : PySem.W.nsIn K mainGlobals "str" = some none)
    (z_tuple : PySem.W.nsIn K mainGlobals "tuple" = some none)
    {e_LongError : Addr} (ea_LongError : PySem.W.nsIn K mainGlobals "LongError" = some (some (.ref e_LongError)))
    {e_Lossy : Addr} (ea_Lossy : PySem.W.nsIn K mainGlobals "Lossy" = some (some (.ref e_Lossy)))
    {e_NoNumber : Addr} (ea_NoNumber : PySem.W.nsIn K mainGlobals "NoNumber" = some (some (.ref e_NoNumber)))
    {e_NoPrime : Addr} (ea_NoPrime : PySem.W.nsIn K mainGlobals "NoPrime" = some (some (.ref e_NoPrime)))
    {e_NoProgram : Addr} (ea_NoProgram : PySem.W.nsIn K mainGlobals "NoProgram" = some (some (.ref e_NoProgram)))
    {e_NoText : Addr} (ea_NoText : PySem.W.nsIn K mainGlobals "NoText" = some (some (.ref e_NoText)))
    {e_TooLong : Addr} (ea_TooLong : PySem.W.nsIn K mainGlobals "TooLong" = some (some (.ref e_TooLong)))
    (eb_NoPrime : PySem.W.excIn K e_NoPrime [.type "ValueError", .type "Exception", .type "BaseException", .type "object"] "ValueError.__new__" = true) (ec_NoPrime : PySem.W.keepIn K (.ref e_NoPrime) = true) (ed_NoPrime : PySem.W.subIn K (.ref e_NoPrime) (.type "BaseException") = some true) (ee_NoPrime : PySem.W.typeIn K (.ref e_NoPrime) = some (.type "type"))
    (eb_NoProgram : PySem.W.excIn K e_NoProgram [.type "ValueError", .type "Exception", .type "BaseException", .type "object"] "ValueError.__new__" = true) (ec_NoProgram : PySem.W.keepIn K (.ref e_NoProgram) = true) (ed_NoProgram : PySem.W.subIn K (.ref e_NoProgram) (.type "BaseException") = some true) (ee_NoProgram : PySem.W.typeIn K (.ref e_NoProgram) = some (.type "type"))
    (ex1_NoPrime : PySem.W.findIn K (.ref e_NoPrime) "__getattribute__" = some (some (.builtin "BaseException.__getattribute__")))
    (ex2_NoPrime : PySem.W.findIn K (.ref e_NoPrime) "__getattr__" = some none)
    (ex3_NoPrime : PySem.W.subIn K (.ref e_NoPrime) (.type "BaseException") = some true)
    (ex4_NoPrime : PySem.W.hasDictIn K e_NoPrime = true)
    (ex5_NoPrime : PySem.W.findIn K (.ref e_NoPrime) "__class__" = some (some (.builtin "object.__class__")))
    (ex6_NoPrime : PySem.W.specialIn K (.builtin "object.__class__") "__get__" = some (some (.builtin "getset_descriptor.__get__")))
    (ex7_NoPrime : PySem.W.takesIn K (.builtin "object.__class__") = some true)
    (ex8_NoPrime : PySem.W.mroIn K e_NoPrime (.type "object") = some true)
    (ex1_NoProgram : PySem.W.findIn K (.ref e_NoProgram) "__getattribute__" = some (some (.builtin "BaseException.__getattribute__")))
    (ex2_NoProgram : PySem.W.findIn K (.ref e_NoProgram) "__getattr__" = some none)
    (ex3_NoProgram : PySem.W.subIn K (.ref e_NoProgram) (.type "BaseException") = some true)
    (ex4_NoProgram : PySem.W.hasDictIn K e_NoProgram = true)
    (ex5_NoProgram : PySem.W.findIn K (.ref e_NoProgram) "__class__" = some (some (.builtin "object.__class__")))
    (ex6_NoProgram : PySem.W.specialIn K (.builtin "object.__class__") "__get__" = some (some (.builtin "getset_descriptor.__get__")))
    (ex7_NoProgram : PySem.W.takesIn K (.builtin "object.__class__") = some true)
    (ex8_NoProgram : PySem.W.mroIn K e_NoProgram (.type "object") = some true)
    (eo_NoPrime_Lossy : PySem.W.kitOne K (.ref e_NoPrime) (.ref e_Lossy) = some false)
    (eo_NoPrime_NoNumber : PySem.W.kitOne K (.ref e_NoPrime) (.ref e_NoNumber) = some false)
    (eo_NoPrime_NoPrime : PySem.W.kitOne K (.ref e_NoPrime) (.ref e_NoPrime) = some true)
    (eo_NoPrime_NoProgram : PySem.W.kitOne K (.ref e_NoPrime) (.ref e_NoProgram) = some false)
    (eo_NoPrime_NoText : PySem.W.kitOne K (.ref e_NoPrime) (.ref e_NoText) = some false)
    (eo_NoPrime_TooLong : PySem.W.kitOne K (.ref e_NoPrime) (.ref e_TooLong) = some false)
    (eo_NoProgram_Lossy : PySem.W.kitOne K (.ref e_NoProgram) (.ref e_Lossy) = some false)
    (eo_NoProgram_NoNumber : PySem.W.kitOne K (.ref e_NoProgram) (.ref e_NoNumber) = some false)
    (eo_NoProgram_NoPrime : PySem.W.kitOne K (.ref e_NoProgram) (.ref e_NoPrime) = some false)
    (eo_NoProgram_NoProgram : PySem.W.kitOne K (.ref e_NoProgram) (.ref e_NoProgram) = some true)
    (eo_NoProgram_NoText : PySem.W.kitOne K (.ref e_NoProgram) (.ref e_NoText) = some false)
    (eo_NoProgram_TooLong : PySem.W.kitOne K (.ref e_NoProgram) (.ref e_TooLong) = some false)
    (ev_NoPrime_ValueError : PySem.W.kitOne K (.ref e_NoPrime) (.type "ValueError") = some true)
    (ev_NoProgram_ValueError : PySem.W.kitOne K (.ref e_NoProgram) (.type "ValueError") = some true)
    (em_NoPrime_LongError : PySem.W.exmOne K (.ref e_NoPrime) (.ref e_LongError) = some true)
    (em_NoProgram_LongError : PySem.W.exmOne K (.ref e_NoProgram) (.ref e_LongError) = some true) :
    ∃ fd : FuncData, (∀ (s : Shared) (v : Value), BindsTo s fd ⟨[v], []⟩ [("script", v)]) ∧ ∀ base : Heap, K.In base → base.Ns mainGlobals mg → FnOk l.prog w K mg base (L2.CX l.prog w) 22 fa fd ["script"] (spL K) := by
  have m_on : mg "on" = some (.ref f_on) := PySem.W.mg_of X G a_on
  have F_on := fun_mk (st := s_on) l_on c_on k_on
  have b_on := F_on.binds (ps := ["P", "n"]) fun _ _ _ _ _ _ us hl => match us, hl with | [_, _], _ => rfl
  have m__law_cell : mg "_law_cell" = some (.ref f__law_cell) := PySem.W.mg_of X G a__law_cell
  have F__law_cell := fun_mk (st := s__law_cell) l__law_cell c__law_cell k__law_cell
  have b__law_cell := F__law_cell.binds (ps := ["script", "k"]) fun _ _ _ _ _ _ us hl => match us, hl with | [_, _], _ => rfl
  have m__law_prime : mg "_law_prime" = some (.ref f__law_prime) := PySem.W.mg_of X G a__law_prime
  have F__law_prime := fun_mk (st := s__law_prime) l__law_prime c__law_prime k__law_prime
  have b__law_prime := F__law_prime.binds (ps := ["cell"]) fun _ _ _ _ _ _ us hl => match us, hl with | [_], _ => rfl
  have m__law_digits : mg "_law_digits" = some (.ref f__law_digits) := PySem.W.mg_of X G a__law_digits
  have F__law_digits := fun_mk (st := s__law_digits) l__law_digits c__law_digits k__law_digits
  have b__law_digits := F__law_digits.binds (ps := ["cell", "P", "size"]) fun _ _ _ _ _ _ us hl => match us, hl with | [_, _, _], _ => rfl
  have m__law_count : mg "_law_count" = some (.ref f__law_count) := PySem.W.mg_of X G a__law_count
  have F__law_count := fun_mk (st := s__law_count) l__law_count c__law_count k__law_count
  have b__law_count := F__law_count.binds (ps := ["cell"]) fun _ _ _ _ _ _ us hl => match us, hl with | [_], _ => rfl
  have m__law_set : mg "_law_set" = some (.ref f__law_set) := PySem.W.mg_of X G a__law_set
  have F__law_set := fun_mk (st := s__law_set) l__law_set c__law_set k__law_set
  have b__law_set := F__law_set.binds (ps := ["cell", "more", "P", "many"]) fun _ _ _ _ _ _ us hl => match us, hl with | [_, _, _, _], _ => rfl
  have m__law_items : mg "_law_items" = some (.ref f__law_items) := PySem.W.mg_of X G a__law_items
  have F__law_items := fun_mk (st := s__law_items) l__law_items c__law_items k__law_items
  have b__law_items := F__law_items.binds (ps := ["cells", "P", "many", "agains"]) fun _ _ _ _ _ _ us hl => match us, hl with | [_, _, _, _], _ => rfl
  have m_items_in : mg "items_in" = some (.ref f_items_in) := PySem.W.mg_of X G a_items_in
  have F_items_in := fun_mk (st := s_items_in) l_items_in c_items_in k_items_in
  have b_items_in := F_items_in.binds (ps := ["items"]) fun _ _ _ _ _ _ us hl => match us, hl with | [_], _ => rfl
  have m_agains_deep : mg "agains_deep" = some (.ref f_agains_deep) := PySem.W.mg_of X G a_agains_deep
  have F_agains_deep := fun_mk (st := s_agains_deep) l_agains_deep c_agains_deep k_agains_deep
  have b_agains_deep := F_agains_deep.binds (ps := ["items"]) fun _ _ _ _ _ _ us hl => match us, hl with | [_], _ => rfl
  have m_items_of : mg "items_of" = some (.ref f_items_of) := PySem.W.mg_of X G a_items_of
  have F_items_of := fun_mk (st := s_items_of) l_items_of c_items_of k_items_of
  have b_items_of := F_items_of.binds (ps := ["P", "many", "items"]) fun _ _ _ _ _ _ us hl => match us, hl with | [_, _, _], _ => rfl
  have m_item_of : mg "item_of" = some (.ref f_item_of) := PySem.W.mg_of X G a_item_of
  have F_item_of := fun_mk (st := s_item_of) l_item_of c_item_of k_item_of
  have b_item_of := F_item_of.binds (ps := ["P", "many", "item"]) fun _ _ _ _ _ _ us hl => match us, hl with | [_, _, _], _ => rfl
  have m_is_whole : mg "is_whole" = some (.ref f_is_whole) := PySem.W.mg_of X G a_is_whole
  have F_is_whole := fun_mk (st := s_is_whole) l_is_whole c_is_whole k_is_whole
  have b_is_whole := F_is_whole.binds (ps := ["thing"]) fun _ _ _ _ _ _ us hl => match us, hl with | [_], _ => rfl
  have m_prime : mg "prime" = some (.ref f_prime) := PySem.W.mg_of X G a_prime
  have F_prime := fun_mk (st := s_prime) l_prime c_prime k_prime
  have b_prime := F_prime.binds (ps := ["thing"]) fun _ _ _ _ _ _ us hl => match us, hl with | [_], _ => rfl
  have m_program : mg "program" = some (.ref f_program) := PySem.W.mg_of X G a_program
  have F_program := fun_mk (st := s_program) l_program c_program k_program
  have b_program := F_program.binds (ps := ["P", "many", "items"]) fun _ _ _ _ _ _ us hl => match us, hl with | [_, _, _], _ => rfl
  have m__law_alike : mg "_law_alike" = some (.ref f__law_alike) := PySem.W.mg_of X G a__law_alike
  have F__law_alike := fun_mk (st := s__law_alike) l__law_alike c__law_alike k__law_alike
  have b__law_alike := F__law_alike.binds (ps := ["found", "due"]) fun _ _ _ _ _ _ us hl => match us, hl with | [_, _], _ => rfl
  have m__law_bent : mg "_law_bent" = some (.ref f__law_bent) := PySem.W.mg_of X G a__law_bent
  have F__law_bent := fun_mk (st := s__law_bent) l__law_bent c__law_bent k__law_bent
  have b__law_bent := F__law_bent.binds (ps := ["cell", "many"]) fun _ _ _ _ _ _ us hl => match us, hl with | [_, _], _ => rfl
  have m__law_with : mg "_law_with" = some (.ref f__law_with) := PySem.W.mg_of X G a__law_with
  have F__law_with := fun_mk (st := s__law_with) l__law_with c__law_with k__law_with
  have b__law_with := F__law_with.binds (ps := ["items", "place", "cell", "bent"]) fun _ _ _ _ _ _ us hl => match us, hl with | [_, _, _, _], _ => rfl
  have m_law : mg "law" = some (.ref f_law) := PySem.W.mg_of X G a_law
  have F_law := fun_mk (st := s_law) l_law c_law k_law
  have b_law := F_law.binds (ps := ["script"]) fun _ _ _ _ _ _ us hl => match us, hl with | [_], _ => rfl
  have y_ValueError : mg "ValueError" = none := PySem.W.mg_none_of X G z_ValueError
  have y_any : mg "any" = none := PySem.W.mg_none_of X G z_any
  have y_bool : mg "bool" = none := PySem.W.mg_none_of X G z_bool
  have y_int : mg "int" = none := PySem.W.mg_none_of X G z_int
  have y_isinstance : mg "isinstance" = none := PySem.W.mg_none_of X G z_isinstance
  have y_len : mg "len" = none := PySem.W.mg_none_of X G z_len
  have y_max : mg "max" = none := PySem.W.mg_none_of X G z_max
  have y_min : mg "min" = none := PySem.W.mg_none_of X G z_min
  have y_range : mg "range" = none := PySem.W.mg_none_of X G z_range
  have y_str : mg "str" = none := PySem.W.mg_none_of X G z_str
  have y_tuple : mg "tuple" = none := PySem.W.mg_none_of X G z_tuple
  have x_NoPrime : XC K mg "NoPrime" := ⟨_, PySem.W.mg_of X G ea_NoPrime, eb_NoPrime, ec_NoPrime, ed_NoPrime, ee_NoPrime⟩
  have x_NoProgram : XC K mg "NoProgram" := ⟨_, PySem.W.mg_of X G ea_NoProgram, eb_NoProgram, ec_NoProgram, ed_NoProgram, ee_NoProgram⟩
  have xd_NoPrime : XD K mg "NoPrime" := ⟨_, PySem.W.mg_of X G ea_NoPrime, ⟨ex1_NoPrime, ex2_NoPrime, ex3_NoPrime, ex4_NoPrime, ex5_NoPrime, ex6_NoPrime, ex7_NoPrime, ex8_NoPrime⟩⟩
  have xd_NoProgram : XD K mg "NoProgram" := ⟨_, PySem.W.mg_of X G ea_NoProgram, ⟨ex1_NoProgram, ex2_NoProgram, ex3_NoProgram, ex4_NoProgram, ex5_NoProgram, ex6_NoProgram, ex7_NoProgram, ex8_NoProgram⟩⟩
  have xo_NoPrime_Lossy : XO K mg "NoPrime" "Lossy" false := ⟨_, _, PySem.W.mg_of X G ea_NoPrime, PySem.W.mg_of X G ea_Lossy, eo_NoPrime_Lossy⟩
  have xo_NoPrime_NoNumber : XO K mg "NoPrime" "NoNumber" false := ⟨_, _, PySem.W.mg_of X G ea_NoPrime, PySem.W.mg_of X G ea_NoNumber, eo_NoPrime_NoNumber⟩
  have xo_NoPrime_NoPrime : XO K mg "NoPrime" "NoPrime" true := ⟨_, _, PySem.W.mg_of X G ea_NoPrime, PySem.W.mg_of X G ea_NoPrime, eo_NoPrime_NoPrime⟩
  have xo_NoPrime_NoProgram : XO K mg "NoPrime" "NoProgram" false := ⟨_, _, PySem.W.mg_of X G ea_NoPrime, PySem.W.mg_of X G ea_NoProgram, eo_NoPrime_NoProgram⟩
  have xo_NoPrime_NoText : XO K mg "NoPrime" "NoText" false := ⟨_, _, PySem.W.mg_of X G ea_NoPrime, PySem.W.mg_of X G ea_NoText, eo_NoPrime_NoText⟩
  have xo_NoPrime_TooLong : XO K mg "NoPrime" "TooLong" false := ⟨_, _, PySem.W.mg_of X G ea_NoPrime, PySem.W.mg_of X G ea_TooLong, eo_NoPrime_TooLong⟩
  have xo_NoProgram_Lossy : XO K mg "NoProgram" "Lossy" false := ⟨_, _, PySem.W.mg_of X G ea_NoProgram, PySem.W.mg_of X G ea_Lossy, eo_NoProgram_Lossy⟩
  have xo_NoProgram_NoNumber : XO K mg "NoProgram" "NoNumber" false := ⟨_, _, PySem.W.mg_of X G ea_NoProgram, PySem.W.mg_of X G ea_NoNumber, eo_NoProgram_NoNumber⟩
  have xo_NoProgram_NoPrime : XO K mg "NoProgram" "NoPrime" false := ⟨_, _, PySem.W.mg_of X G ea_NoProgram, PySem.W.mg_of X G ea_NoPrime, eo_NoProgram_NoPrime⟩
  have xo_NoProgram_NoProgram : XO K mg "NoProgram" "NoProgram" true := ⟨_, _, PySem.W.mg_of X G ea_NoProgram, PySem.W.mg_of X G ea_NoProgram, eo_NoProgram_NoProgram⟩
  have xo_NoProgram_NoText : XO K mg "NoProgram" "NoText" false := ⟨_, _, PySem.W.mg_of X G ea_NoProgram, PySem.W.mg_of X G ea_NoText, eo_NoProgram_NoText⟩
  have xo_NoProgram_TooLong : XO K mg "NoProgram" "TooLong" false := ⟨_, _, PySem.W.mg_of X G ea_NoProgram, PySem.W.mg_of X G ea_TooLong, eo_NoProgram_TooLong⟩
  have xv_NoPrime_ValueError : XV K mg "NoPrime" "ValueError" true := ⟨_, PySem.W.mg_of X G ea_NoPrime, ev_NoPrime_ValueError⟩
  have xv_NoProgram_ValueError : XV K mg "NoProgram" "ValueError" true := ⟨_, PySem.W.mg_of X G ea_NoProgram, ev_NoProgram_ValueError⟩
  have xm_NoPrime_LongError : XM K mg "NoPrime" "LongError" := ⟨_, _, PySem.W.mg_of X G ea_NoPrime, PySem.W.mg_of X G ea_LongError, em_NoPrime_LongError⟩
  have xm_NoProgram_LongError : XM K mg "NoProgram" "LongError" := ⟨_, _, PySem.W.mg_of X G ea_NoProgram, PySem.W.mg_of X G ea_LongError, em_NoProgram_LongError⟩
  have e := hfa.symm.trans m_law
  cases e
  refine ⟨PySem.W.fnOf "law" "law" (defArgs s_law) (defBody s_law) (defScope s_law) .none kV_law dc_law pm_law an_law cd_law ct_law, fun s v => .of_eq rfl, fun base _ _ => ?_⟩
  have key : ∃ f fd, FnOk l.prog w K mg base (L2.CX l.prog w) 22 f fd ["script"] (Spec K mg rLaw) ∧ mg "law" = some (.ref f) ∧ fd = PySem.W.fnOf "law" "law" (defArgs s_law) (defBody s_law) (defScope s_law) .none kV_law dc_law pm_law an_law cd_law ct_law := by
    have g_on := ok_on (P := l.prog) (w := w) (base := base) F_on m_on b_on
    have g__law_cell := ok_cell (P := l.prog) (w := w) (base := base) F__law_cell m__law_cell b__law_cell (by with_reducible assumption)
    have g__law_prime := ok_prime (P := l.prog) (w := w) (base := base) F__law_prime m__law_prime b__law_prime (by with_reducible assumption) (by with_reducible assumption)
    have g__law_digits := ok_digits (P := l.prog) (w := w) (base := base) F__law_digits m__law_digits b__law_digits (by with_reducible assumption) (by with_reducible assumption)
    have g__law_count := ok_count (P := l.prog) (w := w) (base := base) F__law_count m__law_count b__law_count
    have g__law_set := ok_set (P := l.prog) (w := w) (base := base) F__law_set m__law_set b__law_set (by with_reducible assumption)
    have g__law_items := ok_items (P := l.prog) (w := w) (base := base) F__law_items m__law_items b__law_items (by with_reducible assumption) (by with_reducible assumption) (by with_reducible assumption) (by with_reducible assumption) (by with_reducible assumption) (by with_reducible assumption) (by with_reducible assumption)
    have g_items_in := ok_items_in (P := l.prog) (w := w) (base := base) F_items_in m_items_in b_items_in
    have g_agains_deep := ok_agains_deep (P := l.prog) (w := w) (base := base) F_agains_deep m_agains_deep b_agains_deep (by with_reducible assumption)
    have g_items_of := ok_items_of (P := l.prog) (w := w) (base := base) F_items_of m_items_of b_items_of (by with_reducible assumption) (by with_reducible assumption) (by with_reducible assumption) (by with_reducible assumption) (by with_reducible assumption) (by with_reducible assumption) (by with_reducible assumption)
    have h_items_of := g_items_of.fn
    have g_item_of := ok_item_of (P := l.prog) (w := w) (base := base) F_item_of m_item_of b_item_of (by with_reducible assumption) (by with_reducible assumption) (by with_reducible assumption) (by with_reducible assumption) (by with_reducible assumption) (by with_reducible assumption) (by with_reducible assumption)
    have h_item_of := g_item_of.fn
    have g_is_whole := ok_is_whole (P := l.prog) (w := w) (base := base) F_is_whole m_is_whole b_is_whole (by with_reducible assumption) (by with_reducible assumption) (by with_reducible assumption)
    have g_prime := ok_primeG (P := l.prog) (w := w) (base := base) F_prime m_prime b_prime (by with_reducible assumption) (by with_reducible assumption)
    have h_prime := g_prime.fn
    have g_program := ok_program (P := l.prog) (w := w) (base := base) F_program m_program b_program (by with_reducible assumption) (by with_reducible assumption) (by with_reducible assumption) (by with_reducible assumption) (by with_reducible assumption)
    have h_program := g_program.fn
    have g__law_alike := ok_lalike (P := l.prog) (w := w) (base := base) F__law_alike m__law_alike b__law_alike (by with_reducible assumption) (by with_reducible assumption) (by with_reducible assumption) (by with_reducible assumption) (by with_reducible assumption) (by with_reducible assumption) (by with_reducible assumption)
    have g__law_bent := ok_bent (P := l.prog) (w := w) (base := base) F__law_bent m__law_bent b__law_bent
    have g__law_with := ok_with (P := l.prog) (w := w) (base := base) F__law_with m__law_with b__law_with
    have g_law := ok_law (P := l.prog) (w := w) (base := base) F_law m_law b_law (by with_reducible assumption) (by with_reducible assumption) (by with_reducible assumption) (by with_reducible assumption) (by with_reducible assumption) (by with_reducible assumption) (by with_reducible assumption) (by with_reducible assumption) (by with_reducible assumption) (by with_reducible assumption) (by with_reducible assumption) (by with_reducible assumption) (by with_reducible assumption) (by with_reducible assumption) (by with_reducible assumption) (by with_reducible assumption) (by with_reducible assumption) (by with_reducible assumption) (by with_reducible assumption) (by with_reducible assumption) (by with_reducible assumption) (by with_reducible assumption) (by with_reducible assumption) (by with_reducible assumption) (by with_reducible assumption) (by with_reducible assumption) (by with_reducible assumption) (by with_reducible assumption)
    exact g_law.withFd m_law l_law
  obtain ⟨f, fd, hF, e1, e2⟩ := key
  have e3 := hfa.symm.trans e1
  cases e3
  subst e2
  refine hF.imp fun vs H Q E hsp => ?_
  obtain ⟨a, ns, rfl, hS, hlen, q⟩ := hsp
  refine ⟨H, [.list (ns.map .int)], .ok (.dat (.bool true)), Same.refl H, .cons (.lst hS (dpAll_ints ns)) .nil, .mk hlen, fun v I' H' g hv => ?_⟩
  rw [dp_bool hv]
  exact q H'
end W
open PySem PySem.W PyProof.Rows
set_option maxHeartbeats 0 in
theorem PySem.Challenge.cw_longrounds_k12_programs_refused_holds : PySem.Challenge.rw_longrounds_k12_programs_refused.Holds := by
  w_on; o_law; k_head; (case hw => w_witness2)
  k_fill
  refine L2.walk_of (l := PySem.Challenge.rw_longrounds_k12_programs_refused) (n := 63) (k := 22) (x := "script") (CX := fun w => L2.CX (PySem.Challenge.rw_longrounds_k12_programs_refused).prog w) (sp := fun w => W.spL _) rfl (by decide) rfl ⟨rfl, by decide, by decide⟩ (fun w h Y => PySem.W.kIn_of Y) ?F (fun _ _ a ns hl _ hS => ⟨a, ns, rfl, hS, hl, fun _ => rfl⟩) (fun _ _ _ _ _ h => by
    obtain ⟨_, _, _, _, _, _, _, _, _, _, _, _, z⟩ := h
    exact z.elim)
  case F =>
    intro w mg fa h KX G hmg
    refine' W.all_mk KX G hmg ?a_on ?l_on ?c_on ?k_on ?a__law_cell ?l__law_cell ?c__law_cell ?k__law_cell ?a__law_prime ?l__law_prime ?c__law_prime ?k__law_prime ?a__law_digits ?l__law_digits ?c__law_digits ?k__law_digits ?a__law_count ?l__law_count ?c__law_count ?k__law_count ?a__law_set ?l__law_set ?c__law_set ?k__law_set ?a__law_items ?l__law_items ?c__law_items ?k__law_items ?a_items_in ?l_items_in ?c_items_in ?k_items_in ?a_agains_deep ?l_agains_deep ?c_agains_deep ?k_agains_deep ?a_items_of ?l_items_of ?c_items_of ?k_items_of ?a_item_of ?l_item_of ?c_item_of ?k_item_of ?a_is_whole ?l_is_whole ?c_is_whole ?k_is_whole ?a_prime ?l_prime ?c_prime ?k_prime ?a_program ?l_program ?c_program ?k_program ?a__law_alike ?l__law_alike ?c__law_alike ?k__law_alike ?a__law_bent ?l__law_bent ?c__law_bent ?k__law_bent ?a__law_with ?l__law_with ?c__law_with ?k__law_with ?a_law ?l_law ?c_law ?k_law ?z_ValueError ?z_any ?z_bool ?z_int ?z_isinstance ?z_len ?z_max ?z_min ?z_range ?z_str ?z_tuple ?ea_LongError ?ea_Lossy ?ea_NoNumber ?ea_NoPrime ?ea_NoProgram ?ea_NoText ?ea_TooLong ?eb_NoPrime ?ec_NoPrime ?ed_NoPrime ?ee_NoPrime ?eb_NoProgram ?ec_NoProgram ?ed_NoProgram ?ee_NoProgram ?ex1_NoPrime ?ex2_NoPrime ?ex3_NoPrime ?ex4_NoPrime ?ex5_NoPrime ?ex6_NoPrime ?ex7_NoPrime ?ex8_NoPrime ?ex1_NoProgram ?ex2_NoProgram ?ex3_NoProgram ?ex4_NoProgram ?ex5_NoProgram ?ex6_NoProgram ?ex7_NoProgram ?ex8_NoProgram ?eo_NoPrime_Lossy ?eo_NoPrime_NoNumber ?eo_NoPrime_NoPrime ?eo_NoPrime_NoProgram ?eo_NoPrime_NoText ?eo_NoPrime_TooLong ?eo_NoProgram_Lossy ?eo_NoProgram_NoNumber ?eo_NoProgram_NoPrime ?eo_NoProgram_NoProgram ?eo_NoProgram_NoText ?eo_NoProgram_TooLong ?ev_NoPrime_ValueError ?ev_NoProgram_ValueError ?em_NoPrime_LongError ?em_NoProgram_LongError
    (case a_on => k_is)
    (case l_on => k_is)
    (case c_on => k_is)
    (case k_on => k_is)
    (case a__law_cell => k_is)
    (case l__law_cell => k_is)
    (case c__law_cell => k_is)
    (case k__law_cell => k_is)
    (case a__law_prime => k_is)
    (case l__law_prime => k_is)
    (case c__law_prime => k_is)
    (case k__law_prime => k_is)
    (case a__law_digits => k_is)
    (case l__law_digits => k_is)
    (case c__law_digits => k_is)
    (case k__law_digits => k_is)
    (case a__law_count => k_is)
    (case l__law_count => k_is)
    (case c__law_count => k_is)
    (case k__law_count => k_is)
    (case a__law_set => k_is)
    (case l__law_set => k_is)
    (case c__law_set => k_is)
    (case k__law_set => k_is)
    (case a__law_items => k_is)
    (case l__law_items => k_is)
    (case c__law_items => k_is)
    (case k__law_items => k_is)
    (case a_items_in => k_is)
    (case l_items_in => k_is)
    (case c_items_in => k_is)
    (case k_items_in => k_is)
    (case a_agains_deep => k_is)
    (case l_agains_deep => k_is)
    (case c_agains_deep => k_is)
    (case k_agains_deep => k_is)
    (case a_items_of => k_is)
    (case l_items_of => k_is)
    (case c_items_of => k_is)
    (case k_items_of => k_is)
    (case a_item_of => k_is)
    (case l_item_of => k_is)
    (case c_item_of => k_is)
    (case k_item_of => k_is)
    (case a_is_whole => k_is)
    (case l_is_whole => k_is)
    (case c_is_whole => k_is)
    (case k_is_whole => k_is)
    (case a_prime => k_is)
    (case l_prime => k_is)
    (case c_prime => k_is)
    (case k_prime => k_is)
    (case a_program => k_is)
    (case l_program => k_is)
    (case c_program => k_is)
    (case k_program => k_is)
    (case a__law_alike => k_is)
    (case l__law_alike => k_is)
    (case c__law_alike => k_is)
    (case k__law_alike => k_is)
    (case a__law_bent => k_is)
    (case l__law_bent => k_is)
    (case c__law_bent => k_is)
    (case k__law_bent => k_is)
    (case a__law_with => k_is)
    (case l__law_with => k_is)
    (case c__law_with => k_is)
    (case k__law_with => k_is)
    (case a_law => k_is)
    (case l_law => k_is)
    (case c_law => k_is)
    (case k_law => k_is)
    (case z_ValueError => k_is)
    (case z_any => k_is)
    (case z_bool => k_is)
    (case z_int => k_is)
    (case z_isinstance => k_is)
    (case z_len => k_is)
    (case z_max => k_is)
    (case z_min => k_is)
    (case z_range => k_is)
    (case z_str => k_is)
    (case z_tuple => k_is)
    (case ea_LongError => k_is)
    (case ea_Lossy => k_is)
    (case ea_NoNumber => k_is)
    (case ea_NoPrime => k_is)
    (case ea_NoProgram => k_is)
    (case ea_NoText => k_is)
    (case ea_TooLong => k_is)
    (case eb_NoPrime => k_exc)
    (case ec_NoPrime => k_is)
    (case ed_NoPrime => k_is)
    (case ee_NoPrime => k_is)
    (case eb_NoProgram => k_exc)
    (case ec_NoProgram => k_is)
    (case ed_NoProgram => k_is)
    (case ee_NoProgram => k_is)
    (case ex1_NoPrime => k_is)
    (case ex2_NoPrime => k_is)
    (case ex3_NoPrime => k_is)
    (case ex4_NoPrime => k_is)
    (case ex5_NoPrime => k_is)
    (case ex6_NoPrime => k_is)
    (case ex7_NoPrime => k_is)
    (case ex8_NoPrime => k_is)
    (case ex1_NoProgram => k_is)
    (case ex2_NoProgram => k_is)
    (case ex3_NoProgram => k_is)
    (case ex4_NoProgram => k_is)
    (case ex5_NoProgram => k_is)
    (case ex6_NoProgram => k_is)
    (case ex7_NoProgram => k_is)
    (case ex8_NoProgram => k_is)
    (case eo_NoPrime_Lossy => kit_is)
    (case eo_NoPrime_NoNumber => kit_is)
    (case eo_NoPrime_NoPrime => kit_is)
    (case eo_NoPrime_NoProgram => kit_is)
    (case eo_NoPrime_NoText => kit_is)
    (case eo_NoPrime_TooLong => kit_is)
    (case eo_NoProgram_Lossy => kit_is)
    (case eo_NoProgram_NoNumber => kit_is)
    (case eo_NoProgram_NoPrime => kit_is)
    (case eo_NoProgram_NoProgram => kit_is)
    (case eo_NoProgram_NoText => kit_is)
    (case eo_NoProgram_TooLong => kit_is)
    (case ev_NoPrime_ValueError => kit_is)
    (case ev_NoProgram_ValueError => kit_is)
    (case em_NoPrime_LongError => kts_exm)
    (case em_NoProgram_LongError => kts_exm)
